import PyProof.Rows.All
import Wide.All
import OpenK.AllK
import Wide.FinOn
import HandS.ForMost
import HandS.Exc
import HandS.Defaults
import HandS.TupAny
import HandS.Iter
import KE.GoesMore
import HandS.WordsExc
import KE.KEqNest
import HandS.DeepEq
import HandS.Style
import PyProof.ReprRoads
import HandS.Deep
import HandS.RaiseMore
import HandS.StrMore
import HandS.StrSplit
import HandS.SortInts
import HandS.TupMul
import HandS.IsInst
import HandS.TupLen
import PyProof.RowDictHeap
import HandS.More
import HandS.HeadHook2
import HandS.HeadHook4
import PyProof.Rows.StrMeet
import HandS.List
import PyProof.Rows.StrRev
import HandS.ReplaceLit
import HandS.ReplaceList
import PyProof.ToksMono
import HandS.SortKw
import KE.DatumOrd
import KE.KStateDown
import Lean
import HandS.Head0
import HandS.Head1
import HandS.Head2
import HandS.HeadEnd
import HandS.HeadHook1
import HandS.HeadHook3
import PySem.Challenge.RW_trapsetter_k16_registers_put_in
set_option Elab.async false
set_option linter.all false
set_option maxRecDepth 100000
section
/-! Mini, part A: plain data, the plain heap, outcomes, how both lie in the abstract heap. -/
namespace Mn
open PySem PySem.Spec PyProof.Rows L2

/-! ## plain data -/
abbrev Tx := List Nat
def tx (x : Tx) : Str := ⟨x.toArray⟩
theorem tx_inj {x y : Tx} (h : tx x = tx y) : x = y := by
  have e : x.toArray = y.toArray := congrArg Str.cps h
  exact congrArg Array.toList e
theorem tx_cps (z : Str) : tx z.cps.toList = z := by
  cases z
  rfl
theorem cps_tx (x : Tx) : (tx x).cps.toList = x := rfl
theorem len_tx (x : Tx) : (tx x).length = x.length := rfl

inductive D where
  | non
  | bl (b : Bool)
  | int (i : Int)
  | str (x : Tx)
  | tup (xs : List D)
  | frl (xs : List D)
  | ref (n : Nat)
  | cst (n : Nat)
  deriving Inhabited

/-- a dict's key -/
abbrev DK := Sum Int Tx
def dkK : DK → Key
  | .inl i => .inl i
  | .inr x => .inr (tx x)
theorem dkK_inj : ∀ {a b : DK}, dkK a = dkK b → a = b
  | .inl _, .inl _, h => congrArg Sum.inl (Sum.inl.inj h)
  | .inr _, .inr _, h => congrArg Sum.inr (tx_inj (Sum.inr.inj h))
  | .inl _, .inr _, h => nomatch h
  | .inr _, .inl _, h => nomatch h

/-- what stands in the plain heap -/
inductive MO where
  | lst (xs : List D)
  | dct (kvs : List (DK × D))
  | ins (C : Nat) (fs : List (Str × D))
  deriving Inhabited
abbrev MH := List MO

/-- an exception: its class by number, its fields -/
structure Ex where
  c : Nat
  fs : List (Str × D)

inductive Out (α : Type) where
  | ok (a : α) (m : MH)
  | ex (x : Ex) (m : MH)
  | no
namespace Out
def bind {α β : Type} (o : Out α) (f : α → MH → Out β) : Out β := match o with
  | ok a m => f a m
  | ex x m => ex x m
  | no => no
theorem bind_ok {α β : Type} {a : α} {m : MH} {f : α → MH → Out β} : (ok a m).bind f = f a m := rfl
theorem bind_ex {α β : Type} {x : Ex} {m : MH} {f : α → MH → Out β} : (ex x m).bind f = ex x m := rfl
theorem bind_no {α β : Type} {f : α → MH → Out β} : (no : Out α).bind f = no := rfl
theorem bind_bind {α β γ : Type} (o : Out α) (f : α → MH → Out β) (g : β → MH → Out γ) : (o.bind f).bind g = o.bind fun a m => (f a m).bind g := by
  cases o <;> rfl
end Out
abbrev Fr := List (Option D)

/-! ## how plain data lie in the abstract heap -/
/-- the program's frame of reference: the written part, the values of constants, the classes -/
structure Kx where
  K : PySem.W.Frag
  c : Nat → V
  cl : Nat → Addr
  ec : Nat → Value

def TupAt (K : PySem.W.Frag) (H : Hp) (a : Addr) (ys : List V) : Prop := H a = some (.tup ys) ∨ SqT K (fun _ => none) a ys
def FrlAt (K : PySem.W.Frag) (H : Hp) (a : Addr) (ys : List V) : Prop := (∃ o, H a = some (.frz o (.lst ys))) ∨ SqL K (fun _ => none) a ys
theorem TupAt.sq {K : PySem.W.Frag} {H : Hp} {a : Addr} {ys : List V} (h : TupAt K H a ys) : SqT K H a ys := by
  rcases h with h | (h | ⟨o, h⟩) | h
  · exact .inl (.inl h)
  · exact nomatch h
  · exact nomatch h
  · exact .inr h
theorem FrlAt.sq {K : PySem.W.Frag} {H : Hp} {a : Addr} {ys : List V} (h : FrlAt K H a ys) : SqL K H a ys := by
  rcases h with ⟨o, h⟩ | (h | ⟨o, h⟩) | h
  · exact .inl (.inr ⟨o, h⟩)
  · exact nomatch h
  · exact nomatch h
  · exact .inr h

/-- constants by number: the built-in classes, then the program's own -/
def cV (k : Kx) : Nat → V
  | 0 => .ty "str"
  | 1 => .ty "int"
  | 2 => .ty "bool"
  | 3 => .ty "tuple"
  | 4 => .ty "list"
  | 5 => .ty "dict"
  | n => k.c n
mutual
def RV (k : Kx) (r : List Addr) (H : Hp) : D → V → Prop
  | .non, v => v = .non
  | .bl b, v => v = .bl b
  | .int i, v => v = .int i
  | .str x, v => v = .str (tx x)
  | .tup xs, v => ∃ a ys, v = .ref a ∧ TupAt k.K H a ys ∧ RVs k r H xs ys
  | .frl xs, v => ∃ a ys, v = .ref a ∧ FrlAt k.K H a ys ∧ RVs k r H xs ys
  | .ref n, v => ∃ a, v = .ref a ∧ r[n]? = some a
  | .cst n, v => v = cV k n
def RVs (k : Kx) (r : List Addr) (H : Hp) : List D → List V → Prop
  | [], ys => ys = []
  | x :: xs, ys => ∃ y t, ys = y :: t ∧ RV k r H x y ∧ RVs k r H xs t
end
def RKs (k : Kx) (r : List Addr) (H : Hp) : List (DK × D) → List (Key × V) → Prop
  | [], ys => ys = []
  | x :: xs, ys => ∃ y t, ys = (dkK x.1, y) :: t ∧ RV k r H x.2 y ∧ RKs k r H xs t
def RFs (k : Kx) (r : List Addr) (H : Hp) : List (Str × D) → List (Str × V) → Prop
  | [], ys => ys = []
  | x :: xs, ys => ∃ y t, ys = (x.1, y) :: t ∧ RV k r H x.2 y ∧ RFs k r H xs t
def RO (k : Kx) (r : List Addr) (H : Hp) (a : Addr) : MO → Prop
  | .lst xs => ∃ ys, H a = some (.lst ys) ∧ RVs k r H xs ys
  | .dct kvs => ∃ ys, H a = some (.dK ys) ∧ RKs k r H kvs ys
  | .ins C fs => ∃ dx ys, H a = some (.ins (k.cl C) dx ys) ∧ RFs k r H fs ys
structure HR (k : Kx) (r : List Addr) (m : MH) (H : Hp) : Prop where
  len : r.length = m.length
  nd : r.Nodup
  ob : ∀ (n : Nat) (o : MO) (a : Addr), m[n]? = some o → r[n]? = some a → RO k r H a o

/-- tuples and frozen lists stand -/
structure Keep (H H' : Hp) : Prop where
  tup : ∀ a ys, H a = some (.tup ys) → H' a = some (.tup ys)
  frz : ∀ a o u, H a = some (.frz o u) → H' a = some (.frz o u)
theorem Keep.refl (H : Hp) : Keep H H := ⟨fun _ _ h => h, fun _ _ _ h => h⟩
theorem Keep.trans {H H1 H2 : Hp} (a : Keep H H1) (b : Keep H1 H2) : Keep H H2 := ⟨fun c y h => b.tup c y (a.tup c y h), fun c o u h => b.frz c o u (a.frz c o u h)⟩
theorem Keep.new {H : Hp} {p : Addr} {o : HO} (h : H p = none) : Keep H (upd H p o) :=
  ⟨fun a ys e => by rw [upd_ne (ne_of_none e h)]; exact e, fun a b u e => by rw [upd_ne (ne_of_none e h)]; exact e⟩
theorem Keep.put {H : Hp} {p : Addr} {o u : HO} (h : H p = some u) (h1 : ∀ ys, u ≠ .tup ys) (h2 : ∀ b z, u ≠ .frz b z) : Keep H (upd H p o) :=
  ⟨fun a ys e => by rw [upd_ne (ne_of e h (h1 ys).symm)]; exact e, fun a b z e => by rw [upd_ne (ne_of e h (h2 b z).symm)]; exact e⟩

section
variable {k : Kx} {r r' : List Addr} {H H' : Hp} {m : MH}
theorem TupAt.keep {K : PySem.W.Frag} {a : Addr} {ys : List V} (kp : Keep H H') (h : TupAt K H a ys) : TupAt K H' a ys := by
  rcases h with h | h
  · exact .inl (kp.tup _ _ h)
  · exact .inr h
theorem FrlAt.keep {K : PySem.W.Frag} {a : Addr} {ys : List V} (kp : Keep H H') (h : FrlAt K H a ys) : FrlAt K H' a ys := by
  rcases h with ⟨o, h⟩ | h
  · exact .inl ⟨o, kp.frz _ _ _ h⟩
  · exact .inr h
theorem pre_get {n : Nat} {a : Addr} (p : r <+: r') (h : r[n]? = some a) : r'[n]? = some a := by
  obtain ⟨t, rfl⟩ := p
  have hn : n < r.length := (List.getElem?_eq_some_iff.mp h).1
  rw [List.getElem?_append_left hn]
  exact h
mutual
theorem RV.more (p : r <+: r') (kp : Keep H H') : ∀ (d : D) (v : V), RV k r H d v → RV k r' H' d v
  | .non, _, h => h
  | .bl _, _, h => h
  | .int _, _, h => h
  | .str _, _, h => h
  | .tup xs, _, ⟨a, ys, e, t, q⟩ => ⟨a, ys, e, t.keep kp, RVs.more p kp xs ys q⟩
  | .frl xs, _, ⟨a, ys, e, t, q⟩ => ⟨a, ys, e, t.keep kp, RVs.more p kp xs ys q⟩
  | .ref _, _, ⟨a, e, q⟩ => ⟨a, e, pre_get p q⟩
  | .cst _, _, h => h
theorem RVs.more (p : r <+: r') (kp : Keep H H') : ∀ (ds : List D) (vs : List V), RVs k r H ds vs → RVs k r' H' ds vs
  | [], _, h => h
  | x :: xs, _, ⟨y, t, e, q, z⟩ => ⟨y, t, e, RV.more p kp x y q, RVs.more p kp xs t z⟩
end
theorem RKs.more (p : r <+: r') (kp : Keep H H') : ∀ (ds : List (DK × D)) (vs : List (Key × V)), RKs k r H ds vs → RKs k r' H' ds vs
  | [], _, h => h
  | x :: xs, _, ⟨y, t, e, q, z⟩ => ⟨y, t, e, RV.more p kp _ y q, RKs.more p kp xs t z⟩
theorem RFs.more (p : r <+: r') (kp : Keep H H') : ∀ (ds : List (Str × D)) (vs : List (Str × V)), RFs k r H ds vs → RFs k r' H' ds vs
  | [], _, h => h
  | x :: xs, _, ⟨y, t, e, q, z⟩ => ⟨y, t, e, RV.more p kp _ y q, RFs.more p kp xs t z⟩
theorem RO.more {a : Addr} (p : r <+: r') (kp : Keep H H') (e : H' a = H a) : ∀ (o : MO), RO k r H a o → RO k r' H' a o
  | .lst xs, ⟨ys, h, q⟩ => ⟨ys, e.trans h, RVs.more p kp _ _ q⟩
  | .dct xs, ⟨ys, h, q⟩ => ⟨ys, e.trans h, RKs.more p kp _ _ q⟩
  | .ins C fs, ⟨dx, ys, h, q⟩ => ⟨dx, ys, e.trans h, RFs.more p kp _ _ q⟩
theorem RO.trk {a : Addr} : ∀ {o : MO}, RO k r H a o → ∃ u, H a = some u ∧ (∀ ys, u ≠ .tup ys) ∧ ∀ b z, u ≠ .frz b z
  | .lst xs, ⟨ys, h, _⟩ => ⟨_, h, fun _ z => (nomatch z), fun _ _ z => (nomatch z)⟩
  | .dct xs, ⟨ys, h, _⟩ => ⟨_, h, fun _ z => (nomatch z), fun _ _ z => (nomatch z)⟩
  | .ins C fs, ⟨dx, ys, h, _⟩ => ⟨_, h, fun _ z => (nomatch z), fun _ _ z => (nomatch z)⟩
theorem HR.at (h : HR k r m H) {n : Nat} {a : Addr} (e : r[n]? = some a) : ∃ o, m[n]? = some o ∧ RO k r H a o := by
  have hn : n < r.length := (List.getElem?_eq_some_iff.mp e).1
  have hm : n < m.length := by
    have := h.len
    omega
  exact ⟨m[n], List.getElem?_eq_getElem hm, h.ob n _ a (List.getElem?_eq_getElem hm) e⟩
theorem HR.addr (h : HR k r m H) {n : Nat} {o : MO} (e : m[n]? = some o) : ∃ a, r[n]? = some a ∧ RO k r H a o := by
  have hm : n < m.length := (List.getElem?_eq_some_iff.mp e).1
  have hn : n < r.length := by
    have := h.len
    omega
  exact ⟨r[n], List.getElem?_eq_getElem hn, h.ob n _ _ e (List.getElem?_eq_getElem hn)⟩
theorem HR.fresh (h : HR k r m H) {p : Addr} (e : H p = none) : p ∉ r := fun hm => by
  obtain ⟨n, hn⟩ := List.mem_iff_getElem?.mp hm
  obtain ⟨o, _, q⟩ := h.at hn
  obtain ⟨u, z, _⟩ := q.trk
  rw [e] at z
  cases z
/-- only tuples, frozen things and untracked things changed -/
theorem HR.keepO (h : HR k r m H) (kp : Keep H H') (e : ∀ a ∈ r, H' a = H a) : HR k r m H' :=
  ⟨h.len, h.nd, fun n o a e1 e2 => (h.ob n o a e1 e2).more (List.prefix_refl r) kp (e a (List.mem_of_getElem? e2)) o⟩
/-- something new that isn't followed -/
theorem HR.skip (h : HR k r m H) {p : Addr} {o : HO} (e : H p = none) : HR k r m (upd H p o) :=
  h.keepO (.new e) fun a ha => by
    rw [upd_ne]
    intro z
    exact h.fresh e (z ▸ ha)
/-- a new object -/
theorem HR.new (h : HR k r m H) {p : Addr} {o : HO} {u : MO} (e : H p = none) (q : RO k (r ++ [p]) (upd H p o) p u) : HR k (r ++ [p]) (m ++ [u]) (upd H p o) := by
  have hp := h.fresh e
  refine ⟨by rw [List.length_append, List.length_append, h.len]; rfl, ?_, fun n v a e1 e2 => ?_⟩
  · refine List.nodup_append.mpr ⟨h.nd, List.pairwise_singleton _ p, fun a ha b hb z => ?_⟩
    rw [List.mem_singleton] at hb
    subst hb
    subst z
    exact hp ha
  · by_cases hn : n < m.length
    · rw [List.getElem?_append_left hn] at e1
      rw [List.getElem?_append_left (by rw [h.len]; exact hn)] at e2
      have na : a ≠ p := fun z => hp (z ▸ List.mem_of_getElem? e2)
      exact (h.ob n v a e1 e2).more (List.prefix_append r [p]) (.new e) (upd_ne na) v
    · have hn' : n = m.length := by
        have := (List.getElem?_eq_some_iff.mp e1).1
        rw [List.length_append, List.length_singleton] at this
        omega
      subst hn'
      rw [List.getElem?_append_right (Nat.le_refl _), Nat.sub_self] at e1
      rw [List.getElem?_append_right (by rw [h.len]; exact Nat.le_refl _), h.len, Nat.sub_self] at e2
      cases e1
      cases e2
      exact q
/-- an object is another one -/
theorem HR.put (h : HR k r m H) {n : Nat} {p : Addr} {o : HO} {u v : MO} (hn : r[n]? = some p) (hv : m[n]? = some v) (q : RO k r (upd H p o) p u) : HR k r (m.set n u) (upd H p o) ∧ Keep H (upd H p o) := by
  obtain ⟨w, e, h1, h2⟩ := (h.ob n v p hv hn).trk
  have kp : Keep H (upd H p o) := .put e h1 h2
  have hm : n < m.length := (List.getElem?_eq_some_iff.mp hv).1
  refine ⟨⟨by rw [List.length_set]; exact h.len, h.nd, fun i x a e1 e2 => ?_⟩, kp⟩
  by_cases hi : i = n
  · subst hi
    rw [hn] at e2
    cases e2
    rw [List.getElem?_set_self hm] at e1
    cases e1
    exact q
  · rw [List.getElem?_set_ne (Ne.symm hi)] at e1
    have na : a ≠ p := by
      intro z
      subst z
      obtain ⟨l1, g1⟩ := List.getElem?_eq_some_iff.mp e2
      obtain ⟨l2, g2⟩ := List.getElem?_eq_some_iff.mp hn
      exact hi ((List.getElem_inj h.nd).mp (g1.trans g2.symm))
    exact (h.ob i x a e1 e2).more (List.prefix_refl r) kp (upd_ne na) x

theorem RVs.length : ∀ {ds : List D} {vs : List V}, RVs k r H ds vs → ds.length = vs.length
  | [], _, h => by
    have e : _ = [] := h
    rw [e]
    rfl
  | x :: xs, _, ⟨y, t, e, _, q⟩ => by
    rw [e, List.length_cons, List.length_cons, RVs.length q]
theorem RVs.get : ∀ {ds : List D} {vs : List V} {i : Nat} {d : D}, RVs k r H ds vs → ds[i]? = some d → ∃ v, vs[i]? = some v ∧ RV k r H d v
  | [], _, _, _, _, e => by simp at e
  | x :: xs, _, 0, d, ⟨y, t, e, q, _⟩, h => by
    rw [List.getElem?_cons_zero] at h
    cases h
    exact ⟨y, by rw [e, List.getElem?_cons_zero], q⟩
  | x :: xs, _, i + 1, d, ⟨y, t, e, _, q⟩, h => by
    rw [List.getElem?_cons_succ] at h
    obtain ⟨v, h1, h2⟩ := RVs.get q h
    exact ⟨v, by rw [e, List.getElem?_cons_succ]; exact h1, h2⟩
theorem RVs.app : ∀ {ds es : List D} {vs ws : List V}, RVs k r H ds vs → RVs k r H es ws → RVs k r H (ds ++ es) (vs ++ ws)
  | [], _, _, _, h, q => by
    have e : _ = [] := h
    rw [e]
    exact q
  | x :: xs, _, _, _, ⟨y, t, e, z, q⟩, q2 => by
    rw [e]
    exact ⟨y, t ++ _, rfl, z, RVs.app q q2⟩
theorem RVs.one {d : D} {v : V} (h : RV k r H d v) : RVs k r H [d] [v] := ⟨v, [], rfl, h, rfl⟩
theorem RVs.takeD : ∀ {ds : List D} {vs : List V} (n : Nat), RVs k r H ds vs → RVs k r H (ds.take n) (vs.take n)
  | [], _, n, h => by
    have e : _ = [] := h
    rw [e, List.take_nil, List.take_nil]
    exact rfl
  | x :: xs, _, 0, _ => rfl
  | x :: xs, _, n + 1, ⟨y, t, e, z, q⟩ => by
    rw [e]
    exact ⟨y, t.take n, rfl, z, RVs.takeD n q⟩
theorem RVs.dropD : ∀ {ds : List D} {vs : List V} (n : Nat), RVs k r H ds vs → RVs k r H (ds.drop n) (vs.drop n)
  | [], _, n, h => by
    have e : _ = [] := h
    rw [e, List.drop_nil, List.drop_nil]
    exact rfl
  | x :: xs, _, 0, h => h
  | x :: xs, _, n + 1, ⟨y, t, e, z, q⟩ => by
    rw [e]
    exact RVs.dropD n q
theorem RVs.setD : ∀ {ds : List D} {vs : List V} (n : Nat) {d : D} {v : V}, RVs k r H ds vs → RV k r H d v → RVs k r H (ds.set n d) (vs.set n v)
  | [], _, n, _, _, h, _ => by
    have e : _ = [] := h
    rw [e]
    exact rfl
  | x :: xs, _, 0, _, v, ⟨y, t, e, z, q⟩, h => by
    rw [e]
    exact ⟨v, t, rfl, h, q⟩
  | x :: xs, _, n + 1, _, _, ⟨y, t, e, z, q⟩, h => by
    rw [e]
    exact ⟨y, t.set n _, rfl, z, RVs.setD n q h⟩
end

/-! ## outcomes read -/
/-- how an exception lies -/
def RX (k : Kx) (r : List Addr) (H : Hp) (x : Ex) (c : Value) (dx : Option Addr) : Prop :=
  c = k.ec x.c ∧ (x.fs = [] ∨ ∃ d ys, dx = some d ∧ H d = some (.xd ys) ∧ RFs k r H x.fs ys)
def Fin (k : Kx) (r : List Addr) (H : Hp) (o : Out D) (Q : VK) (E : XK) : Prop := match o with
  | .ok d m => ∀ r' v H', r <+: r' → Keep H H' → HR k r' m H' → RV k r' H' d v → Q v H'
  | .ex x m => ∀ r' c dx H', r <+: r' → Keep H H' → HR k r' m H' → RX k r' H' x c dx → E c dx H'
  | .no => False
section
variable {k : Kx} {r r' : List Addr} {H H' : Hp} {m : MH} {Q : VK} {E : XK}
theorem Fin.weak {o : Out D} (p : r <+: r') (kp : Keep H H') (h : Fin k r H o Q E) : Fin k r' H' o Q E := by
  cases o with
  | ok d m => exact fun r2 v H2 p2 k2 hr hv => h r2 v H2 (p.trans p2) (kp.trans k2) hr hv
  | ex x m => exact fun r2 v H2 H3 p2 k2 hr hv => h r2 v H2 H3 (p.trans p2) (kp.trans k2) hr hv
  | no => exact h
theorem Fin.pure {d : D} {v : V} (h : Fin k r H (.ok d m) Q E) (hr : HR k r m H) (hv : RV k r H d v) : Q v H := h r v H (List.prefix_refl r) (.refl H) hr hv
theorem Fin.bind {o : Out D} {f : D → MH → Out D} (h : Fin k r H (o.bind f) Q E) {Q' : VK}
    (hq : ∀ d m1 r1 v H1, r <+: r1 → Keep H H1 → HR k r1 m1 H1 → RV k r1 H1 d v → Fin k r1 H1 (f d m1) Q E → Q' v H1) : Fin k r H o Q' E := by
  cases o with
  | ok d m => exact fun r1 v H1 p1 k1 hr hv => hq d m r1 v H1 p1 k1 hr hv (Fin.weak p1 k1 (show Fin k r H (f d m) Q E from h))
  | ex x m => exact h
  | no => exact h
end

/-! ## frames -/
def RF (k : Kx) (r : List Addr) (H : Hp) : Fr → L2.St → Prop
  | [], s => s = []
  | none :: f, s => ∃ y t, s = y :: t ∧ RF k r H f t
  | some d :: f, s => ∃ v t, s = some v :: t ∧ RV k r H d v ∧ RF k r H f t
section
variable {k : Kx} {r r' : List Addr} {H H' : Hp}
theorem RF.more (p : r <+: r') (kp : Keep H H') : ∀ {f : Fr} {s : L2.St}, RF k r H f s → RF k r' H' f s
  | [], _, h => h
  | none :: f, _, ⟨y, t, e, q⟩ => ⟨y, t, e, q.more p kp⟩
  | some d :: f, _, ⟨v, t, e, z, q⟩ => ⟨v, t, e, RV.more p kp d v z, q.more p kp⟩
theorem RF.get : ∀ {f : Fr} {s : L2.St} {i : Nat} {d : D}, RF k r H f s → f[i]? = some (some d) → ∃ v, s[i]? = some (some v) ∧ RV k r H d v
  | [], _, _, _, _, e => by simp at e
  | none :: f, _, 0, d, ⟨y, t, e, q⟩, h => by simp at h
  | some x :: f, _, 0, d, ⟨v, t, e, z, q⟩, h => by
    rw [List.getElem?_cons_zero] at h
    cases h
    exact ⟨v, by rw [e, List.getElem?_cons_zero], z⟩
  | none :: f, _, i + 1, d, ⟨y, t, e, q⟩, h => by
    rw [List.getElem?_cons_succ] at h
    obtain ⟨v, h1, h2⟩ := RF.get q h
    exact ⟨v, by rw [e, List.getElem?_cons_succ]; exact h1, h2⟩
  | some x :: f, _, i + 1, d, ⟨v, t, e, z, q⟩, h => by
    rw [List.getElem?_cons_succ] at h
    obtain ⟨v, h1, h2⟩ := RF.get q h
    exact ⟨v, by rw [e, List.getElem?_cons_succ]; exact h1, h2⟩
theorem RF.set : ∀ {f : Fr} {s : L2.St} (i : Nat) {d : D} {v : V}, RF k r H f s → RV k r H d v → RF k r H (f.set i (some d)) (s.set i (some v))
  | [], _, i, _, _, h, _ => by
    have e : _ = [] := h
    rw [e]
    exact rfl
  | none :: f, _, 0, d, v, ⟨y, t, e, q⟩, h => by
    rw [e]
    exact ⟨v, t, rfl, h, q⟩
  | some x :: f, _, 0, d, v, ⟨w, t, e, z, q⟩, h => by
    rw [e]
    exact ⟨v, t, rfl, h, q⟩
  | none :: f, _, i + 1, d, v, ⟨y, t, e, q⟩, h => by
    rw [e]
    exact ⟨y, t.set i _, rfl, RF.set i q h⟩
  | some x :: f, _, i + 1, d, v, ⟨w, t, e, z, q⟩, h => by
    rw [e]
    exact ⟨w, t.set i _, rfl, z, RF.set i q h⟩
/-- a slot forgotten -/
theorem RF.wipe : ∀ {f : Fr} {s : L2.St} (i : Nat) {y : Option V}, RF k r H f s → RF k r H (f.set i none) (s.set i y)
  | [], _, i, _, h => by
    have e : _ = [] := h
    rw [e]
    exact rfl
  | none :: f, _, 0, v, ⟨y, t, e, q⟩ => by
    rw [e]
    exact ⟨v, t, rfl, q⟩
  | some x :: f, _, 0, v, ⟨w, t, e, z, q⟩ => by
    rw [e]
    exact ⟨v, t, rfl, q⟩
  | none :: f, _, i + 1, v, ⟨y, t, e, q⟩ => by
    rw [e]
    exact ⟨y, t.set i _, rfl, RF.wipe i q⟩
  | some x :: f, _, i + 1, v, ⟨w, t, e, z, q⟩ => by
    rw [e]
    exact ⟨w, t.set i _, rfl, z, RF.wipe i q⟩
theorem RF.len : ∀ {f : Fr} {s : L2.St}, RF k r H f s → f.length = s.length
  | [], _, h => by
    have e : _ = [] := h
    rw [e]
    rfl
  | none :: f, _, ⟨y, t, e, q⟩ => by rw [e, List.length_cons, List.length_cons, q.len]
  | some x :: f, _, ⟨w, t, e, z, q⟩ => by rw [e, List.length_cons, List.length_cons, q.len]
theorem RF.blank : ∀ (n : Nat), RF k r H (List.replicate n none) (List.replicate n none)
  | 0 => rfl
  | n + 1 => ⟨none, _, List.replicate_succ, RF.blank n⟩
theorem RF.start {n : Nat} : ∀ {ds : List D} {vs : List V}, RVs k r H ds vs → RF k r H (ds.map some ++ List.replicate n none) (vs.map some ++ List.replicate n none)
  | [], _, h => by
    have e : _ = [] := h
    rw [e]
    exact RF.blank n
  | x :: xs, _, ⟨y, t, e, z, q⟩ => by
    rw [e]
    exact ⟨y, _, rfl, z, RF.start q⟩
end
end Mn
end

section
/-! Mini, part B: judgements over plain data; names, constants, operators, tests. -/
namespace Mn
open PySem PySem.Spec PyProof.Rows L2

/-- what a context gives -/
structure At (X : Cx) (W : WX) (k : Kx) (n : Nat) : Prop where
  kk : k.K = X.K
  tk : Takes X W
  gd : X.A.guards = some []
  hr : Room n X.A
  calm : X.calm = true
  nd : X.N.Nodup
  po : PassesOwn (model X.prog X.w) X.A X.env X.xe

abbrev Rel (α β : Type) := List Addr → Hp → α → β → Prop
def RB : Rel Bool Bool := fun _ _ b c => c = b
def RN {α β : Type} : Rel α β := fun _ _ _ _ => True
def Fi {α β : Type} (k : Kx) (R : Rel α β) (r : List Addr) (H : Hp) (o : Out α) (Q : β → Hp → Prop) (E : XK) : Prop := match o with
  | .ok d m => ∀ r' v H', r <+: r' → Keep H H' → HR k r' m H' → R r' H' d v → Q v H'
  | .ex x m => ∀ r' c dx H', r <+: r' → Keep H H' → HR k r' m H' → RX k r' H' x c dx → E c dx H'
  | .no => False
section
variable {α β γ δ : Type} {k : Kx} {R : Rel α β} {R2 : Rel γ δ} {r r' : List Addr} {H H' : Hp} {m : MH} {Q : β → Hp → Prop} {E : XK}
theorem Fi.weak {o : Out α} (p : r <+: r') (kp : Keep H H') (h : Fi k R r H o Q E) : Fi k R r' H' o Q E := by
  cases o with
  | ok d m => exact fun r2 v H2 p2 k2 hr hv => h r2 v H2 (p.trans p2) (kp.trans k2) hr hv
  | ex x m => exact fun r2 v H2 H3 p2 k2 hr hv => h r2 v H2 H3 (p.trans p2) (kp.trans k2) hr hv
  | no => exact h
theorem Fi.pure {d : α} {v : β} (h : Fi k R r H (.ok d m) Q E) (hr : HR k r m H) (hv : R r H d v) : Q v H := h r v H (List.prefix_refl r) (.refl H) hr hv
theorem Fi.bind {o : Out α} {f : α → MH → Out γ} {P : δ → Hp → Prop} (h : Fi k R2 r H (o.bind f) P E) {Q' : β → Hp → Prop}
    (hq : ∀ d m1 r1 v H1, r <+: r1 → Keep H H1 → HR k r1 m1 H1 → R r1 H1 d v → Fi k R2 r1 H1 (f d m1) P E → Q' v H1) : Fi k R r H o Q' E := by
  cases o with
  | ok d m => exact fun r1 v H1 p1 k1 hr hv => hq d m r1 v H1 p1 k1 hr hv (Fi.weak p1 k1 (show Fi k R2 r H (f d m) P E from h))
  | ex x m => exact h
  | no => exact h
theorem Fi.imp {o : Out α} (h : Fi k R r H o Q E) {Q' : β → Hp → Prop} (hq : ∀ v H', Q v H' → Q' v H') : Fi k R r H o Q' E := by
  cases o with
  | ok d m => exact fun r1 v H1 p1 k1 hr hv => hq _ _ (h r1 v H1 p1 k1 hr hv)
  | ex x m => exact h
  | no => exact h
end

/-- a step that raises nothing -/
abbrev Opt (α : Type) := Option (α × MH)
def Ok {α β : Type} (k : Kx) (R : Rel α β) (r : List Addr) (H : Hp) (o : Opt α) (Q : β → Hp → Prop) : Prop := match o with
  | some (d, m) => ∀ r' v H', r <+: r' → Keep H H' → HR k r' m H' → R r' H' d v → Q v H'
  | none => False
def up {α : Type} : Opt α → Out α
  | some (d, m) => .ok d m
  | none => .no
theorem Fi.ok {α β : Type} {k : Kx} {R : Rel α β} {r : List Addr} {H : Hp} {o : Opt α} {Q : β → Hp → Prop} {E : XK} (h : Fi k R r H (up o) Q E) : Ok k R r H o Q := by
  cases o with
  | none => exact h
  | some p => exact h
theorem Ok.pure {α β : Type} {k : Kx} {R : Rel α β} {r : List Addr} {H : Hp} {m : MH} {d : α} {v : β} {Q : β → Hp → Prop} (h : Ok k R r H (some (d, m)) Q) (hr : HR k r m H) (hv : R r H d v) : Q v H := h r v H (List.prefix_refl r) (.refl H) hr hv
theorem up_ok {α : Type} {d : α} {m : MH} : up (some (d, m)) = .ok d m := rfl

/-! ## readings -/
def tM {α β : Type} (k : Kx) (R : Rel α β) (W : WX) (g : Fr → MH → Out α) : L2.St → Hp → (β → Hp → Prop) → Prop :=
  fun σ H Q => ∃ r f m, RF k r H f σ ∧ HR k r m H ∧ Fi k R r H (g f m) Q fun c d H' => W c d σ H'
def SE (X : Cx) (W : WX) (k : Kx) (e : Expr) (g : Fr → MH → Out D) : Prop := PE X e (tM k (RV k) W g)
def ST (X : Cx) (W : WX) (k : Kx) (e : Expr) (g : Fr → MH → Out Bool) : Prop := PT X e (tM k RB W g)
def SW (X : Cx) (W : WX) (k : Kx) (e : Expr) (g : Fr → MH → Out Bool) : Prop := PW X e (tM k RB W g)
def SA (X : Cx) (W : WX) (k : Kx) (es : List Expr) (g : Fr → MH → Out (List D)) : Prop := PA X es (tM k (RVs k) W g)
section
variable {α β γ δ : Type} {k : Kx} {W : WX} {R : Rel α β} {R2 : Rel γ δ} {σ : L2.St} {H : Hp}
theorem tM_bind {g : Fr → MH → Out α} {h : α → Fr → MH → Out γ} {Q : δ → Hp → Prop} (q : tM k R2 W (fun f m => (g f m).bind fun a m1 => h a f m1) σ H Q) {Q' : β → Hp → Prop}
    (hq : ∀ a r f m v H1, RF k r H1 f σ → HR k r m H1 → R r H1 a v → Fi k R2 r H1 (h a f m) Q (fun c d H' => W c d σ H') → Q' v H1) : tM k R W g σ H Q' := by
  obtain ⟨r, f, m, hf, hr, hq0⟩ := q
  exact ⟨r, f, m, hf, hr, Fi.bind hq0 fun d m1 r1 v H1 p kp hr1 hv q1 => hq d r1 f m1 v H1 (hf.more p kp) hr1 hv q1⟩
/-- the same, the frame and heap given -/
theorem tM_of {g : Fr → MH → Out α} {r : List Addr} {f : Fr} {m : MH} {Q : β → Hp → Prop} (hf : RF k r H f σ) (hr : HR k r m H) (h : Fi k R r H (g f m) Q fun c d H' => W c d σ H') : tM k R W g σ H Q := ⟨r, f, m, hf, hr, h⟩
end

/-! ## denotations -/
def gVar (i : Nat) : Fr → MH → Out D := fun f m => match f[i]? with
  | some (some d) => .ok d m
  | _ => .no
def gCon (d : D) : Fr → MH → Out D := fun _ m => .ok d m
def gUn (F : D → MH → Opt D) (g : Fr → MH → Out D) : Fr → MH → Out D := fun f m => (g f m).bind fun x m1 => up (F x m1)
def gBin (F : D → D → MH → Opt D) (ga gb : Fr → MH → Out D) : Fr → MH → Out D := fun f m => (ga f m).bind fun x m1 => (gb f m1).bind fun y m2 => up (F x y m2)
def gNil : Fr → MH → Out (List D) := fun _ m => .ok [] m
def gCons (g : Fr → MH → Out D) (t : Fr → MH → Out (List D)) : Fr → MH → Out (List D) := fun f m => (g f m).bind fun x m1 => (t f m1).bind fun xs m2 => .ok (x :: xs) m2
def gFn (F : List D → MH → Opt D) (t : Fr → MH → Out (List D)) : Fr → MH → Out D := fun f m => (t f m).bind fun xs m1 => up (F xs m1)
/-- truth of a value that is one -/
def isB : D → Option Bool
  | .bl b => some b
  | _ => none
def gTest (g : Fr → MH → Out D) : Fr → MH → Out Bool := fun f m => (g f m).bind fun x m1 => match isB x with
  | some b => .ok b m1
  | none => .no
def gAnd (a b : Fr → MH → Out Bool) : Fr → MH → Out Bool := fun f m => (a f m).bind fun c m1 => if c then b f m1 else .ok false m1
def gOr (a b : Fr → MH → Out Bool) : Fr → MH → Out Bool := fun f m => (a f m).bind fun c m1 => if c then .ok true m1 else b f m1
def gNot (a : Fr → MH → Out Bool) : Fr → MH → Out Bool := fun f m => (a f m).bind fun c m1 => .ok (!c) m1
def gAndV (a b : Fr → MH → Out D) : Fr → MH → Out D := fun f m => (a f m).bind fun x m1 => match x with
  | .bl true => b f m1
  | .bl false => .ok (.bl false) m1
  | _ => .no
def gOrV (a b : Fr → MH → Out D) : Fr → MH → Out D := fun f m => (a f m).bind fun x m1 => match x with
  | .bl true => .ok (.bl true) m1
  | .bl false => b f m1
  | _ => .no
def gNotV (a : Fr → MH → Out D) : Fr → MH → Out D := fun f m => (a f m).bind fun x m1 => match x with
  | .bl b => .ok (.bl (!b)) m1
  | _ => .no
def gIf {α : Type} (t : Fr → MH → Out Bool) (a b : Fr → MH → Out α) : Fr → MH → Out α := fun f m => (t f m).bind fun c m1 => if c then a f m1 else b f m1
def gChain (F G : D → D → MH → Opt D) (a b c : Fr → MH → Out D) : Fr → MH → Out D := fun f m => (a f m).bind fun x m1 => (b f m1).bind fun y m2 => (up (F x y m2)).bind fun z m3 => match z with
  | .bl true => (c f m3).bind fun w m4 => up (G y w m4)
  | .bl false => .ok (.bl false) m3
  | _ => .no

/-! ## operators by their rules -/
def r2 (k : Kx) (F : D → D → MH → Opt D) : R2 := fun x y H Q => ∃ r m a b, HR k r m H ∧ RV k r H a x ∧ RV k r H b y ∧ Ok k (RV k) r H (F a b m) Q
def r1 (k : Kx) (F : D → MH → Opt D) : V → Hp → VK → Prop := fun x H Q => ∃ r m a, HR k r m H ∧ RV k r H a x ∧ Ok k (RV k) r H (F a m) Q
def rN (k : Kx) (F : List D → MH → Opt D) : List V → Hp → VK → Prop := fun xs H Q => ∃ r m as, HR k r m H ∧ RVs k r H as xs ∧ Ok k (RV k) r H (F as m) Q

section
variable {X : Cx} {W : WX} {k : Kx} {a b c e : Expr} {es : List Expr} {ga gb gc g : Fr → MH → Out D} {pos : Pos}
theorem se_var {x : Str} (i : Nat) (hN : X.N[i]? = some x := by rfl) (hv : Vis X.env.scope x := by first | exact Or.inl rfl | exact Or.inr (Or.inl rfl) | exact Or.inr (Or.inr rfl)) (hd : (x == ("__debug__" : Str)) = false := by decide)
    (hcd : (x == ("__classdict__" : Str)) = false := by decide) : SE X W k (.Name x pos) (gVar i) := by
  refine ⟨fun pins s σ H Q I h => (pe_var hN hv hd hcd).run pins s σ H Q I ?_⟩
  obtain ⟨r, f, m, hf, hr, q⟩ := h
  unfold gVar at q
  split at q
  · rename_i d hd
    obtain ⟨v, h1, h2⟩ := hf.get hd
    exact ⟨v, h1, Fi.pure q hr h2⟩
  · exact q.elim
theorem se_con {d : D} {v : V} {e : Expr} (h : PE X e (tC v)) (hv : ∀ r H, RV k r H d v) : SE X W k e (gCon d) :=
  ⟨fun pins s σ H Q I ⟨r, f, m, hf, hr, q⟩ => h.run pins s σ H Q I (Fi.pure q hr (hv r H))⟩
theorem se_int {i j} : SE X W k (.Constant (.int i) j pos) (gCon (.int i)) := se_con pe_int fun _ _ => rfl
theorem se_bl {b j} : SE X W k (.Constant (.bool b) j pos) (gCon (.bl b)) := se_con pe_bl fun _ _ => rfl
theorem se_non {j} : SE X W k (.Constant .none j pos) (gCon .non) := se_con pe_non fun _ _ => rfl
theorem se_str {x : Str} {j} (y : Tx) (hy : x = tx y := by rfl) : SE X W k (.Constant (.str x) j pos) (gCon (.str y)) := se_con pe_str fun _ _ => by
  show V.str x = V.str (tx y)
  rw [hy]
theorem se_un {op : UnaryOp} {F : D → MH → Opt D} (ho : UnR X (unaryOp op) (r1 k F)) (ha : SE X W k a ga) : SE X W k (.UnaryOp op a pos) (gUn F ga) := by
  refine ⟨fun pins s σ H Q I h => (pe_un ho ha).run pins s σ H Q I ?_⟩
  exact tM_bind h fun x r f m v H1 hf hr hv q => ⟨r, m, x, hr, hv, Fi.ok q⟩
theorem gBin_reads {F : D → D → MH → Opt D} {σ : L2.St} {H : Hp} {Q : VK} (h : tM k (RV k) W (gBin F ga gb) σ H Q) : tOp (r2 k F) (tM k (RV k) W ga) (tM k (RV k) W gb) σ H Q :=
  tM_bind h fun x r f m v H1 hf hr hv q => tM_of hf hr (Fi.bind q fun y m2 r2 u H2 p kp hr2 hu q2 => ⟨r2, m2, x, y, hr2, RV.more p kp x v hv, hu, Fi.ok q2⟩)
theorem se_bin {op : Operator} {F : D → D → MH → Opt D} (ho : OpR X (binaryOp op) (r2 k F)) (ha : SE X W k a ga) (hb : SE X W k b gb) : SE X W k (.BinOp a op b pos) (gBin F ga gb) :=
  ⟨fun pins s σ H Q I h => (pe_op ho ha hb).run pins s σ H Q I (gBin_reads h)⟩
theorem se_cmp {op : CmpOp} {F : D → D → MH → Opt D} (ho : OpR X (compareOp op) (r2 k F)) (ha : SE X W k a ga) (hb : SE X W k b gb) (hm : behindInMarks op b = false := by first | exact nobehind _ (by decide) (by decide) | rfl) :
    SE X W k (.Compare a [op] [b] pos) (gBin F ga gb) :=
  ⟨fun pins s σ H Q I h => (pe_cmpR ho ha hb hm).run pins s σ H Q I (gBin_reads h)⟩
theorem gChain_reads {F G : D → D → MH → Opt D} {σ : L2.St} {H : Hp} {Q : VK} (h : tM k (RV k) W (gChain F G ga gb gc) σ H Q) : tChain (r2 k F) (r2 k G) (tM k (RV k) W ga) (tM k (RV k) W gb) (tM k (RV k) W gc) σ H Q := by
  refine tM_bind h fun x r f m v H1 hf hr hv q => tM_of hf hr (Fi.bind q fun y m2 r2 u H2 p kp hr2 hu q2 => ⟨r2, m2, x, y, hr2, RV.more p kp x v hv, hu, ?_⟩)
  have hf2 := hf.more p kp
  have q3 := Fi.bind (R := RV k) q2 (Q' := fun z H3 => ∃ kk, z = .bl kk ∧ (if kk = true then tM k (RV k) W gc σ H3 fun w' H4 => Mn.r2 k G u w' H4 Q else Q (.bl false) H3)) fun z m3 r3 zv H3 p3 kp3 hr3 hz q4 => ?_
  · exact Fi.ok q3
  · match z, hz, q4 with
    | .bl true, hz, q4 =>
      refine ⟨true, hz, ?_⟩
      rw [if_pos rfl]
      exact tM_of (hf2.more p3 kp3) hr3 (Fi.bind q4 fun w m4 r4 wv H4 p4 kp4 hr4 hw q5 => ⟨r4, m4, y, w, hr4, RV.more p4 kp4 y u (RV.more p3 kp3 y u hu), hw, Fi.ok q5⟩)
    | .bl false, hz, q4 =>
      refine ⟨false, hz, ?_⟩
      rw [if_neg Bool.false_ne_true]
      exact Fi.pure q4 hr3 rfl
    | .non, _, q4 => exact q4.elim
    | .int _, _, q4 => exact q4.elim
    | .str _, _, q4 => exact q4.elim
    | .tup _, _, q4 => exact q4.elim
    | .frl _, _, q4 => exact q4.elim
    | .ref _, _, q4 => exact q4.elim
    | .cst _, _, q4 => exact q4.elim
theorem se_chain {op op' : CmpOp} {F G : D → D → MH → Opt D} (ho : OpR X (compareOp op) (r2 k F)) (ho' : OpR X (compareOp op') (r2 k G)) (ha : SE X W k a ga) (hb : SE X W k b gb) (hc : SE X W k c gc) (hm : lastMarks [op, op'] [b, c] = false := by rfl) :
    SE X W k (.Compare a [op, op'] [b, c] pos) (gChain F G ga gb gc) :=
  ⟨fun pins s σ H Q I h => (pe_chain ho ho' ha hb hc hm).run pins s σ H Q I (gChain_reads h)⟩
end
end Mn
end

section
/-! Mini, part C: tests, argument lists, displays, calls of built-ins; statements. -/
namespace Mn
open PySem PySem.Spec PyProof.Rows L2

section
variable {X : Cx} {W : WX} {k : Kx} {a b c e : Expr} {es rest : List Expr} {ga gb gc g : Fr → MH → Out D} {ta tb tc : Fr → MH → Out Bool} {pos : Pos}
/-! ### tests -/
theorem isB_some : ∀ {d : D} {b : Bool}, isB d = some b → d = .bl b
  | .bl c, b, h => by
    have e : c = b := Option.some.inj h
    rw [e]
theorem gTest_reads {σ : L2.St} {H : Hp} {Q : Bool → Hp → Prop} (h : tM k RB W (gTest g) σ H Q) : tB (tM k (RV k) W g) σ H Q :=
  tM_bind h fun x r f m v H1 hf hr hv q => by
    cases hx : isB x with
    | none =>
      rw [hx] at q
      exact q.elim
    | some c =>
      rw [hx] at q
      have e := isB_some hx
      subst e
      exact ⟨c, hv, Fi.pure q hr rfl⟩
theorem st_val (h : SE X W k e g) (he : ∀ whole, isTrue e X.env whole = (do let v ← whole; standAt e.pos; holding [v] (truthy v)) := by intro _; rfl) : ST X W k e (gTest g) :=
  ⟨fun pins s σ H Q I hw => (pt_val h he).run pins s σ H Q I (gTest_reads hw)⟩
theorem gBinT_reads {F : D → D → MH → Opt D} {σ : L2.St} {H : Hp} {Q : Bool → Hp → Prop} (h : tM k RB W (gTest (gBin F ga gb)) σ H Q) : tB (tOp (r2 k F) (tM k (RV k) W ga) (tM k (RV k) W gb)) σ H Q := by
  have h2 := gTest_reads h
  exact gBin_reads (Q := fun x H1 => ∃ c, x = .bl c ∧ Q c H1) h2
theorem st_cmp {op : CmpOp} {F : D → D → MH → Opt D} (ho : OpR X (compareOp op) (r2 k F)) (ha : SE X W k a ga) (hb : SE X W k b gb) (hm : behindInMarks op b = false := by first | exact nobehind _ (by decide) (by decide) | rfl) :
    ST X W k (.Compare a [op] [b] pos) (gTest (gBin F ga gb)) :=
  ⟨fun pins s σ H Q I h => (pt_cmpR ho ha hb hm).run pins s σ H Q I (gBinT_reads h)⟩
theorem st_chain {op op' : CmpOp} {F G : D → D → MH → Opt D} (ho : OpR X (compareOp op) (r2 k F)) (ho' : OpR X (compareOp op') (r2 k G)) (ha : SE X W k a ga) (hb : SE X W k b gb) (hc : SE X W k c gc) (hm : lastMarks [op, op'] [b, c] = false := by rfl) :
    ST X W k (.Compare a [op, op'] [b, c] pos) (gTest (gChain F G ga gb gc)) :=
  ⟨fun pins s σ H Q I h => (pt_chain ho ho' ha hb hc hm).run pins s σ H Q I (gChain_reads (Q := fun x H1 => ∃ c, x = .bl c ∧ Q c H1) (gTest_reads h))⟩
theorem if_reads {α : Type} {β : Type} {R : Rel α β} {σ : L2.St} {H : Hp} {Q : β → Hp → Prop} {g1 g2 : Fr → MH → Out α} (h : tM k R W (gIf ta g1 g2) σ H Q) :
    tM k RB W ta σ H fun c H1 => if c = true then tM k R W g1 σ H1 Q else tM k R W g2 σ H1 Q :=
  tM_bind h fun x r f m v H1 hf hr hv q => by
    have e : v = x := hv
    subst e
    cases v with
    | true => exact tM_of hf hr q
    | false => exact tM_of hf hr q
theorem sw_and1 (ha : ST X W k a ta) : SW X W k (.BoolOp .And [a] pos) ta := pw_and1 ha
theorem sw_or1 (ha : ST X W k a ta) : SW X W k (.BoolOp .Or [a] pos) ta := pw_or1 ha
theorem sw_and (ha : ST X W k a ta) (hb : SW X W k (.BoolOp .And (b :: rest) pos) tb) : SW X W k (.BoolOp .And (a :: b :: rest) pos) (gAnd ta tb) := by
  refine ⟨fun wh pins s σ H Q I h => (pw_and ha hb).run wh pins s σ H Q I ?_⟩
  refine tM_bind h fun x r f m v H1 hf hr hv q => ?_
  have e : v = x := hv
  subst e
  cases v with
  | true => exact tM_of hf hr q
  | false => exact Fi.pure q hr rfl
theorem sw_or (ha : ST X W k a ta) (hb : SW X W k (.BoolOp .Or (b :: rest) pos) tb) : SW X W k (.BoolOp .Or (a :: b :: rest) pos) (gOr ta tb) := by
  refine ⟨fun wh pins s σ H Q I h => (pw_or ha hb).run wh pins s σ H Q I ?_⟩
  refine tM_bind h fun x r f m v H1 hf hr hv q => ?_
  have e : v = x := hv
  subst e
  cases v with
  | true => exact Fi.pure q hr rfl
  | false => exact tM_of hf hr q
theorem st_w (h : SW X W k e ta) : ST X W k e ta := PW.pt h
theorem st_not (ha : ST X W k a ta) : ST X W k (.UnaryOp .Not a pos) (gNot ta) := by
  refine ⟨fun pins s σ H Q I h => (pt_not ha).run pins s σ H Q I ?_⟩
  refine tM_bind h fun x r f m v H1 hf hr hv q => ?_
  have e : v = x := hv
  subst e
  exact Fi.pure q hr rfl
/-! ### and, or, not as values (truths) -/
theorem se_one {op} (h : SE X W k a g) : SE X W k (.BoolOp op [a] pos) g := pe_one h
theorem se_and (ha : SE X W k a ga) (hb : SE X W k (.BoolOp .And (b :: rest) pos) gb) : SE X W k (.BoolOp .And (a :: b :: rest) pos) (gAndV ga gb) := by
  refine ⟨fun pins s σ H Q I h => (pe_and ha hb).run pins s σ H Q I ?_⟩
  refine tM_bind h fun x r f m v H1 hf hr hv q => ?_
  match x, hv, q with
  | .bl true, hv, q => exact ⟨true, hv, tM_of hf hr q⟩
  | .bl false, hv, q => exact ⟨false, hv, Fi.pure q hr rfl⟩
  | .non, _, q => exact q.elim
  | .int _, _, q => exact q.elim
  | .str _, _, q => exact q.elim
  | .tup _, _, q => exact q.elim
  | .frl _, _, q => exact q.elim
  | .ref _, _, q => exact q.elim
  | .cst _, _, q => exact q.elim
theorem se_or (ha : SE X W k a ga) (hb : SE X W k (.BoolOp .Or (b :: rest) pos) gb) : SE X W k (.BoolOp .Or (a :: b :: rest) pos) (gOrV ga gb) := by
  refine ⟨fun pins s σ H Q I h => (pe_or ha hb).run pins s σ H Q I ?_⟩
  refine tM_bind h fun x r f m v H1 hf hr hv q => ?_
  match x, hv, q with
  | .bl true, hv, q => exact ⟨true, hv, Fi.pure q hr rfl⟩
  | .bl false, hv, q => exact ⟨false, hv, tM_of hf hr q⟩
  | .non, _, q => exact q.elim
  | .int _, _, q => exact q.elim
  | .str _, _, q => exact q.elim
  | .tup _, _, q => exact q.elim
  | .frl _, _, q => exact q.elim
  | .ref _, _, q => exact q.elim
  | .cst _, _, q => exact q.elim
theorem se_not (ha : SE X W k a ga) : SE X W k (.UnaryOp .Not a pos) (gNotV ga) := by
  refine ⟨fun pins s σ H Q I h => (pe_not ha).run pins s σ H Q I ?_⟩
  refine tM_bind h fun x r f m v H1 hf hr hv q => ?_
  match x, hv, q with
  | .bl c, hv, q => exact ⟨c, hv, Fi.pure q hr rfl⟩
  | .non, _, q => exact q.elim
  | .int _, _, q => exact q.elim
  | .str _, _, q => exact q.elim
  | .tup _, _, q => exact q.elim
  | .frl _, _, q => exact q.elim
  | .ref _, _, q => exact q.elim
  | .cst _, _, q => exact q.elim
theorem se_if (hc : ST X W k c tc) (ha : SE X W k a ga) (hb : SE X W k b gb) : SE X W k (.IfExp c a b pos) (gIf tc ga gb) :=
  ⟨fun pins s σ H Q I h => (pe_ifExp hc ha hb).run pins s σ H Q I (if_reads h)⟩

/-! ### argument lists, displays, calls of built-ins -/
theorem sa_nil : SA X W k [] gNil := ⟨fun ps pins s σ H Q I ⟨r, f, m, hf, hr, q⟩ => pa_nil.run ps pins s σ H Q I (Fi.pure q hr rfl)⟩
theorem sa_cons {t : Fr → MH → Out (List D)} (ha : SE X W k e g) (ht : SA X W k es t) (hs : starEach (e :: es) X.env = (false, eval e X.env) :: starEach es X.env := by rfl) : SA X W k (e :: es) (gCons g t) := by
  refine ⟨fun ps pins s σ H Q I h => (pa_cons ha ht hs).run ps pins s σ H Q I ?_⟩
  exact tM_bind h fun x r f m v H1 hf hr hv q => tM_of hf hr (Fi.bind q fun xs m2 r2 vs H2 p kp hr2 hvs q2 => Fi.pure q2 hr2 ⟨v, vs, rfl, RV.more p kp x v hv, hvs⟩)
/-- a tuple is a value -/
def dTup : List D → MH → Opt D := fun xs m => if xs.length ≤ 100000 then some (.tup xs, m) else none
def dLst : List D → MH → Opt D := fun xs m => if xs.length ≤ 100000 then some (.ref m.length, m ++ [.lst xs]) else none
theorem line5 {n : Nat} (h : n ≤ 100000) : n ≤ sizeLine := Nat.le_trans h (by decide)
theorem line6 {n : Nat} (h : n < 100000) : n < sizeLine := Nat.lt_of_lt_of_le h (by decide)
section
variable {α β : Type} {R : Rel α β} {r : List Addr} {H : Hp} {m : MH}
/-- a new list -/
theorem new_lst {xs : List D} {ys : List V} {Q : VK} (h : Ok k (RV k) r H (some (.ref m.length, m ++ [.lst xs])) Q) (hr : HR k r m H) (hv : RVs k r H xs ys) : ∀ p, H p = none → Q (.ref p) (upd H p (.lst ys)) := fun p hp => by
  refine h (r ++ [p]) (.ref p) _ (List.prefix_append r [p]) (.new hp) (hr.new hp ⟨ys, upd_same, RVs.more (List.prefix_append r [p]) (.new hp) xs ys hv⟩) ⟨p, rfl, ?_⟩
  rw [← hr.len, List.getElem?_append_right (Nat.le_refl _), Nat.sub_self]
  rfl
/-- a new tuple -/
theorem new_tup {xs : List D} {ys : List V} {Q : VK} (h : Ok k (RV k) r H (some (.tup xs, m)) Q) (hr : HR k r m H) (hv : RVs k r H xs ys) : ∀ p, H p = none → Q (.ref p) (upd H p (.tup ys)) := fun p hp =>
  h r (.ref p) _ (List.prefix_refl r) (.new hp) (hr.skip hp) ⟨p, ys, rfl, .inl upd_same, RVs.more (List.prefix_refl r) (.new hp) xs ys hv⟩
end
theorem se_tup {t : Fr → MH → Out (List D)} {x1} (h : SA X W k es t) : SE X W k (.Tuple es x1 pos) (gFn dTup t) := by
  refine ⟨fun pins s σ H Q I hw => (pe_tup h).run pins s σ H Q I ?_⟩
  refine tM_bind hw fun xs r f m ys H1 hf hr hv q => ?_
  have q := Fi.ok q
  unfold dTup at q
  split at q
  · rename_i hl
    exact ⟨by rw [← hv.length]; exact line5 hl, new_tup q hr hv⟩
  · exact q.elim
theorem se_lst {t : Fr → MH → Out (List D)} (h : SA X W k es t) : SE X W k (.List es pos) (gFn dLst t) := by
  refine ⟨fun pins s σ H Q I hw => (pe_lst h).run pins s σ H Q I ?_⟩
  refine tM_bind hw fun xs r f m ys H1 hf hr hv q => ?_
  have q := Fi.ok q
  unfold dLst at q
  split at q
  · rename_i hl
    exact ⟨by rw [← hv.length]; exact line5 hl, new_lst q hr hv⟩
  · exact q.elim
theorem gFn_reads {F : List D → MH → Opt D} {t : Fr → MH → Out (List D)} {σ : L2.St} {H : Hp} {Q : VK} (h : tM k (RV k) W (gFn F t) σ H Q) : tCB (rN k F) (tM k (RVs k) W t) σ H Q :=
  tM_bind h fun xs r f m ys H1 hf hr hv q => ⟨r, m, xs, hr, hv, Fi.ok q⟩
/-- a call of a built-in: h is pe_callB hc .. or pe_callTy hc .. -/
theorem se_cb {F : List D → MH → Opt D} {t : Fr → MH → Out (List D)} (h : PE X e (tCB (rN k F) (tM k (RVs k) W t))) : SE X W k e (gFn F t) :=
  ⟨fun pins s σ H Q I hw => h.run pins s σ H Q I (gFn_reads hw)⟩
end

/-! ## statements -/
inductive Fl where
  | nx
  | ret (d : D)
  | bk
  | ct
inductive SO where
  | go (l : Fl) (f : Fr) (m : MH)
  | ex (x : Ex) (f : Fr) (m : MH)
  | no
def SO.of {α : Type} (f : Fr) (o : Out α) (h : α → MH → SO) : SO := match o with
  | .ok a m => h a m
  | .ex x m => .ex x f m
  | .no => .no
def SO.andThen (o : SO) (h : Fr → MH → SO) : SO := match o with
  | .go .nx f m => h f m
  | o => o
abbrev GS := Fr → MH → SO
def FiS (k : Kx) (W : WX) (r : List Addr) (H : Hp) (o : SO) (E : Ends) : Prop := match o with
  | .go .nx f m => ∀ r' σ' H', r <+: r' → Keep H H' → HR k r' m H' → RF k r' H' f σ' → E.nx σ' H'
  | .go (.ret d) _ m => ∀ r' v H', r <+: r' → Keep H H' → HR k r' m H' → RV k r' H' d v → E.rt v H'
  | .go .bk f m => ∀ r' σ' H', r <+: r' → Keep H H' → HR k r' m H' → RF k r' H' f σ' → E.bk σ' H'
  | .go .ct f m => ∀ r' σ' H', r <+: r' → Keep H H' → HR k r' m H' → RF k r' H' f σ' → E.ct σ' H'
  | .ex x f m => ∀ r' c dx σ' H', r <+: r' → Keep H H' → HR k r' m H' → RF k r' H' f σ' → RX k r' H' x c dx → W c dx σ' H'
  | .no => False
def tS (k : Kx) (W : WX) (g : GS) : TS := fun E σ H => ∃ r f m, RF k r H f σ ∧ HR k r m H ∧ FiS k W r H (g f m) E
def SS (X : Cx) (W : WX) (k : Kx) (s : Stmt) (g : GS) : Prop := PS X s (tS k W g)
def SSs (X : Cx) (W : WX) (k : Kx) (s : List Stmt) (g : GS) : Prop := PSs X s (tS k W g)
section
variable {X : Cx} {W : WX} {k : Kx} {r r' : List Addr} {H H' : Hp} {m : MH} {f : Fr} {σ : L2.St} {E : Ends}
theorem FiS.weak {o : SO} (p : r <+: r') (kp : Keep H H') (h : FiS k W r H o E) : FiS k W r' H' o E := by
  cases o with
  | go l f m =>
    cases l with
    | nx => exact fun r2 v H2 p2 k2 => h r2 v H2 (p.trans p2) (kp.trans k2)
    | ret d => exact fun r2 v H2 p2 k2 => h r2 v H2 (p.trans p2) (kp.trans k2)
    | bk => exact fun r2 v H2 p2 k2 => h r2 v H2 (p.trans p2) (kp.trans k2)
    | ct => exact fun r2 v H2 p2 k2 => h r2 v H2 (p.trans p2) (kp.trans k2)
  | ex x f m => exact fun r2 c dx v H2 p2 k2 => h r2 c dx v H2 (p.trans p2) (kp.trans k2)
  | no => exact h
theorem FiS.nx (h : FiS k W r H (.go .nx f m) E) (hr : HR k r m H) (hf : RF k r H f σ) : E.nx σ H := h r σ H (List.prefix_refl r) (.refl H) hr hf
theorem FiS.rt {d : D} {v : V} (h : FiS k W r H (.go (.ret d) f m) E) (hr : HR k r m H) (hv : RV k r H d v) : E.rt v H := h r v H (List.prefix_refl r) (.refl H) hr hv
/-- an expression of a statement -/
theorem FiS.of {α β : Type} {R : Rel α β} {o : Out α} {h : α → MH → SO} (hf : RF k r H f σ) (q : FiS k W r H (SO.of f o h) E) {Q' : β → Hp → Prop}
    (hq : ∀ d m1 r1 v H1, r <+: r1 → Keep H H1 → HR k r1 m1 H1 → R r1 H1 d v → FiS k W r1 H1 (h d m1) E → Q' v H1) : Fi k R r H o Q' fun c d H' => W c d σ H' := by
  cases o with
  | ok d m => exact fun r1 v H1 p1 k1 hr hv => hq d m r1 v H1 p1 k1 hr hv (FiS.weak p1 k1 (show FiS k W r H (h d m) E from q))
  | ex x m => exact fun r1 c dx H1 p1 k1 hr hx => q r1 c dx σ H1 p1 k1 hr (hf.more p1 k1) hx
  | no => exact q
end
end Mn
end

section
/-! Mini, part D: statements, targets, loops. -/
namespace Mn
open PySem PySem.Spec PyProof.Rows L2

def sNil : GS := fun f m => .go .nx f m
def sSeq (a b : GS) : GS := fun f m => (a f m).andThen b
def sSet (i : Nat) (g : Fr → MH → Out D) : GS := fun f m => SO.of f (g f m) fun d m1 => .go .nx (f.set i (some d)) m1
def sExp (g : Fr → MH → Out D) : GS := fun f m => SO.of f (g f m) fun _ m1 => .go .nx f m1
def sRet (g : Fr → MH → Out D) : GS := fun f m => SO.of f (g f m) fun d m1 => .go (.ret d) f m1
def sRetN : GS := fun f m => .go (.ret .non) f m
def sIf (t : Fr → MH → Out Bool) (a b : GS) : GS := fun f m => SO.of f (t f m) fun c m1 => if c then a f m1 else b f m1
def sBrk : GS := fun f m => .go .bk f m
def sCt : GS := fun f m => .go .ct f m

/-! ### targets -/
inductive Tg where
  | nm (i : Nat)
  | tp (is : List Nat)
  | te (i : Nat) (js : List Nat)
def setsD : Fr → List Nat → List D → Fr
  | f, i :: is, d :: ds => setsD (f.set i (some d)) is ds
  | f, _, _ => f
def setsV : L2.St → List Nat → List V → L2.St
  | s, i :: is, d :: ds => setsV (s.set i (some d)) is ds
  | s, _, _ => s
def Tg.set : Tg → D → Fr → Option Fr
  | .nm i, d, f => some (f.set i (some d))
  | .tp is, .tup ds, f => if ds.length = is.length then some (setsD f is ds) else none
  | .te i js, .tup [x, .tup ds], f => if ds.length = js.length then some (setsD (f.set i (some x)) js ds) else none
  | _, _, _ => none
def tG (K : PySem.W.Frag) : Tg → TG
  | .nm i => gName i
  | .tp is => fun v σ H Q => ∃ a xs, v = .ref a ∧ SqT K H a xs ∧ xs.length = is.length ∧ Q (setsV σ is xs) H
  | .te i js => fun v σ H Q => ∃ a y b ys, v = .ref a ∧ SqT K H a [y, .ref b] ∧ SqT K H b ys ∧ ys.length = js.length ∧ Q (setsV (σ.set i (some y)) js ys) H
def tGs (is : List Nat) : TGs := fun vs σ H Q => vs.length = is.length ∧ Q (setsV σ is vs) H
def SG (X : Cx) (e : Expr) (t : Tg) : Prop := PG X e (tG X.K t)
def SGs (X : Cx) (es : List Expr) (is : List Nat) : Prop := PGs X es (tGs is)
section
variable {X : Cx} {W : WX} {k : Kx} {n : Nat} {pos : Pos}
theorem sg_nm {x : Str} (i : Nat) (hN : X.N.Nodup) (hi : X.N[i]? = some x := by rfl) (hx : Loc X.env.scope x := by first | exact Or.inl rfl | exact Or.inr rfl)
    (hf : X.fn x = true ∨ X.env.scope.names.lookup x = some .local := by first | exact .inl rfl | exact .inr rfl) : SG X (.Name x pos) (.nm i) := pg_name hN hi hx hf
theorem PGs.imp {es : List Expr} {t t' : TGs} (h : PGs X es t) (i : ∀ vs σ H Q, t' vs σ H Q → t vs σ H Q) : PGs X es t' :=
  ⟨fun pins s σ H vs us Q I r q => h.run pins s σ H vs us Q I r (i _ _ _ _ q)⟩
theorem PG.imp {e : Expr} {t t' : TG} (h : PG X e t) (i : ∀ v σ H Q, t' v σ H Q → t v σ H Q) : PG X e t' :=
  ⟨fun pins s σ H v u Q I r q => h.run pins s σ H v u Q I r (i _ _ _ _ q)⟩
theorem sgs_nil : SGs X [] [] := PGs.imp pgs_nil fun vs σ H Q q => by
  obtain ⟨e, q⟩ := q
  cases vs with
  | nil => exact ⟨rfl, q⟩
  | cons _ _ => cases e
theorem sgs_cons {e : Expr} {es : List Expr} {i : Nat} {is : List Nat} (h1 : SG X e (.nm i)) (h2 : SGs X es is) (hs : (assignEach (e :: es) X.env).map (·.2) = assign e X.env :: (assignEach es X.env).map (·.2) := by rfl) : SGs X (e :: es) (i :: is) :=
  PGs.imp (pgs_cons h1 h2 hs) fun vs σ H Q q => by
    obtain ⟨e, q⟩ := q
    cases vs with
    | nil => cases e
    | cons v vs => exact ⟨v, vs, rfl, Nat.succ.inj e, q⟩
theorem sg_tp {es : List Expr} {kk : Nat} {is : List Nat} (hc : X.calm = true) (h : SGs X es is) (hn : (assignEach es X.env).length = is.length := by rfl) (hst : (assignEach es X.env).findIdx? (·.1) = none := by rfl) : SG X (.Tuple es kk pos) (.tp is) :=
  PG.imp (pg_tup hc h hn hst) fun v σ H Q q => by
    obtain ⟨a, xs, e1, e2, e3, q⟩ := q
    exact ⟨a, xs, e1, e2, e3, e3, q⟩
theorem sg_te {e1 e2 : Expr} {kk : Nat} {i : Nat} {js : List Nat} (hc : X.calm = true) (h1 : SG X e1 (.nm i)) (h2 : SG X e2 (.tp js)) (hn : (assignEach [e1, e2] X.env).length = 2 := by rfl) (hst : (assignEach [e1, e2] X.env).findIdx? (·.1) = none := by rfl)
    (hs1 : (assignEach (e1 :: [e2]) X.env).map (·.2) = assign e1 X.env :: (assignEach [e2] X.env).map (·.2) := by rfl) (hs2 : (assignEach (e2 :: []) X.env).map (·.2) = assign e2 X.env :: (assignEach [] X.env).map (·.2) := by rfl) : SG X (.Tuple [e1, e2] kk pos) (.te i js) :=
  PG.imp (pg_tup hc (pgs_cons h1 (pgs_cons h2 pgs_nil hs2) hs1) hn hst) fun v σ H Q q => by
    obtain ⟨a, y, b, ys, e1, e2, e3, e4, q⟩ := q
    exact ⟨a, _, e1, e2, rfl, y, [.ref b], rfl, .ref b, [], rfl, b, ys, rfl, e3, e4, rfl, q⟩
theorem RF.sets {r : List Addr} {H : Hp} : ∀ {is : List Nat} {ds : List D} {vs : List V} {f : Fr} {σ : L2.St}, RVs k r H ds vs → RF k r H f σ → RF k r H (setsD f is ds) (setsV σ is vs)
  | [], ds, vs, f, σ, _, h => by
    cases ds <;> cases vs <;> exact h
  | i :: is, [], vs, f, σ, hv, h => by
    have e : vs = [] := hv
    rw [e]
    exact h
  | i :: is, d :: ds, vs, f, σ, ⟨y, t, e, hd, ht⟩, h => by
    rw [e]
    exact RF.sets (is := is) ht (h.set i hd)
/-- a target takes a value -/
theorem tG_of {r : List Addr} {m : MH} {H : Hp} {σ : L2.St} {T : Tg} {d : D} {v : V} {f f' : Fr} {Q : L2.St → Hp → Prop} (hK : k.K = X.K) (hf : RF k r H f σ) (hv : RV k r H d v) (e : T.set d f = some f') (q : ∀ σ', RF k r H f' σ' → Q σ' H) : tG X.K T v σ H Q := by
  cases T with
  | nm i =>
    cases e
    exact q _ (hf.set i hv)
  | tp is =>
    cases d with
    | tup ds =>
      have e : (if ds.length = is.length then some (setsD f is ds) else none) = some f' := e
      split at e
      · rename_i hl
        cases e
        obtain ⟨a, ys, rfl, ht, hvs⟩ := hv
        exact ⟨a, ys, rfl, hK ▸ ht.sq, by rw [← hvs.length]; exact hl, q _ (hf.sets hvs)⟩
      · cases e
    | _ => cases e
  | te i js =>
    match d, e with
    | .tup [x, .tup ds], e =>
      have e : (if ds.length = js.length then some (setsD (f.set i (some x)) js ds) else none) = some f' := e
      split at e
      · rename_i hl
        cases e
        obtain ⟨a, _, rfl, ht, y, _, rfl, hx, z, _, rfl, ⟨b, ys, rfl, ht2, hvs⟩, rfl⟩ := hv
        exact ⟨a, y, b, ys, rfl, hK ▸ ht.sq, hK ▸ ht2.sq, by rw [← hvs.length]; exact hl, q _ ((hf.set i hx).sets hvs)⟩
      · cases e
end

section
variable {X : Cx} {W : WX} {k : Kx} {n : Nat} {pos : Pos} {e : Expr} {st : Stmt} {sts : List Stmt} {g : Fr → MH → Out D} {ta : Fr → MH → Out Bool} {a b : GS}
theorem ss_nil : SSs X W k [] sNil := ⟨fun pins s σ H E I ⟨r, f, m, hf, hr, q⟩ => pss_nil.run pins s σ H E I (FiS.nx q hr hf)⟩
theorem FiS.seq {r : List Addr} {H : Hp} {o : SO} {E : Ends} (q : FiS k W r H (o.andThen b) E) : FiS k W r H o { E with nx := tS k W b E } := by
  cases o with
  | go l f m =>
    cases l with
    | nx => exact fun r1 σ1 H1 p kp hr hf => ⟨r1, f, m, hf, hr, FiS.weak p kp q⟩
    | ret d => exact q
    | bk => exact q
    | ct => exact q
  | ex x f m => exact q
  | no => exact q
theorem ss_cons (h1 : SS X W k st a) (h2 : SSs X W k sts b) : SSs X W k (st :: sts) (sSeq a b) := by
  refine ⟨fun pins s σ H E I h => (pss_cons h1 h2).run pins s σ H E I ?_⟩
  obtain ⟨r, f, m, hf, hr, q⟩ := h
  exact ⟨r, f, m, hf, hr, FiS.seq q⟩
theorem ss_one (h1 : SS X W k st a) : SSs X W k [st] a := pss_one h1
theorem ss_pass : SS X W k (.Pass pos) sNil := ⟨fun pins s σ H E I ⟨r, f, m, hf, hr, q⟩ => ps_pass.run pins s σ H E I (FiS.nx q hr hf)⟩
theorem ss_break : SS X W k (.Break pos) sBrk := ⟨fun pins s σ H E I ⟨r, f, m, hf, hr, q⟩ => ps_break.run pins s σ H E I ((show FiS k W r H (.go .bk f m) E from q) r σ H (List.prefix_refl r) (.refl H) hr hf)⟩
theorem ss_doc {x j pos'} : SS X W k (.Expr (.Constant (.str x) j pos) pos') sNil := ⟨fun pins s σ H E I ⟨r, f, m, hf, hr, q⟩ => ps_doc.run pins s σ H E I (FiS.nx q hr hf)⟩
theorem tS_bind {α β : Type} {R : Rel α β} {g : Fr → MH → Out α} {h : α → GS} {E : Ends} {σ : L2.St} {H : Hp} (q : tS k W (fun f m => SO.of f (g f m) fun d m1 => h d f m1) E σ H) {Q' : β → Hp → Prop}
    (hq : ∀ d r f m v H1, RF k r H1 f σ → HR k r m H1 → R r H1 d v → FiS k W r H1 (h d f m) E → Q' v H1) : tM k R W g σ H Q' := by
  obtain ⟨r, f, m, hf, hr, q⟩ := q
  exact ⟨r, f, m, hf, hr, FiS.of hf q fun d m1 r1 v H1 p kp hr1 hv q1 => hq d r1 f m1 v H1 (hf.more p kp) hr1 hv q1⟩
theorem ss_set {x : Str} (i : Nat) {pos' : Pos} (he : SE X W k e g) (hN : X.N.Nodup) (hi : X.N[i]? = some x := by rfl) (hx : Loc X.env.scope x := by first | exact Or.inl rfl | exact Or.inr rfl) (hs : swapsWith e (some (.Name x pos')) pos.line X.env = pure false := by rfl)
    (hf : X.fn x = true ∨ X.env.scope.names.lookup x = some .local := by first | exact .inl rfl | exact .inr rfl) : SS X W k (.Assign [.Name x pos'] e pos) (sSet i g) :=
  ⟨fun pins s σ H E I h => (ps_set hN hi hx he hs hf).run pins s σ H E I (tS_bind (h := fun d f m1 => .go .nx (f.set i (some d)) m1) h fun d r f m v H1 hf hr hv q => FiS.nx q hr (hf.set i hv))⟩
/-- any one target of names -/
def sTg (T : Tg) (g : Fr → MH → Out D) : GS := fun f m => SO.of f (g f m) fun d m1 => match T.set d f with
  | some f2 => .go .nx f2 m1
  | none => .no
/-- h: ps_asg (the value) (the target) -/
theorem ss_tg {T : Tg} (hK : k.K = X.K) (h : PS X st (tAsg (tM k (RV k) W g) (tG X.K T))) : SS X W k st (sTg T g) := by
  refine ⟨fun pins s σ H E I hh => h.run pins s σ H E I ?_⟩
  refine tS_bind (h := fun d f m1 => match T.set d f with | some f2 => .go .nx f2 m1 | none => .no) hh fun d r f m v H1 hf hr hv q => ?_
  cases e : T.set d f with
  | none =>
    simp only [e] at q
    exact q.elim
  | some f2 =>
    simp only [e] at q
    exact tG_of (m := m) hK hf hv e fun σ' hf' => FiS.nx q hr hf'
theorem ss_exp (he : SE X W k e g) (hs : swapsWith e none pos.line X.env = pure false := by rfl) : SS X W k (.Expr e pos) (sExp g) :=
  ⟨fun pins s σ H E I h => (ps_expr he hs).run pins s σ H E I (tS_bind (h := fun _ f m1 => .go .nx f m1) h fun d r f m v H1 hf hr hv q => FiS.nx q hr hf)⟩
theorem ss_ret (he : SE X W k e g) : SS X W k (.Return (some e) pos) (sRet g) :=
  ⟨fun pins s σ H E I h => (ps_ret he).run pins s σ H E I (tS_bind (h := fun d f m1 => .go (.ret d) f m1) h fun d r f m v H1 hf hr hv q => FiS.rt q hr hv)⟩
theorem ss_retN : SS X W k (.Return none pos) sRetN := ⟨fun pins s σ H E I ⟨r, f, m, hf, hr, q⟩ => ps_retN.run pins s σ H E I (FiS.rt q hr rfl)⟩
theorem ss_if {c : Expr} {sa sb : List Stmt} (hc : ST X W k c ta) (ha : SSs X W k sa a) (hb : SSs X W k sb b) : SS X W k (.If c sa sb pos) (sIf ta a b) := by
  refine ⟨fun pins s σ H E I h => (ps_if hc ha hb).run pins s σ H E I ?_⟩
  refine tS_bind (R := RB) (h := fun c f m1 => if c then a f m1 else b f m1) h fun d r f m v H1 hf hr hv q => ?_
  have e : v = d := hv
  subst e
  cases v with
  | true => exact ⟨r, f, m, hf, hr, q⟩
  | false => exact ⟨r, f, m, hf, hr, q⟩
/-- x op= e -/
def sAug (i : Nat) (F : D → D → MH → Opt D) (g : Fr → MH → Out D) : GS := fun f m => match f[i]? with
  | some (some x) => SO.of f ((g f m).bind fun y m1 => up (F x y m1)) fun d m2 => .go .nx (f.set i (some d)) m2
  | _ => .no
theorem ss_aug {x : Str} (i : Nat) {op : Operator} {F : D → D → MH → Opt D} {pos' : Pos} (ho : OpR X (inplaceOp op) (r2 k F)) (he : SE X W k e g) (hN : X.N.Nodup) (hi : X.N[i]? = some x := by rfl) (hx : Loc X.env.scope x := by first | exact Or.inl rfl | exact Or.inr rfl)
    (hf : X.fn x = true ∨ X.env.scope.names.lookup x = some .local := by first | exact .inl rfl | exact .inr rfl) : SS X W k (.AugAssign (.Name x pos') op e pos) (sAug i F g) := by
  refine ⟨fun pins s σ H E I h => (ps_aug (ti := r2 k F) hN hi hx he ho hf).run pins s σ H E I ?_⟩
  obtain ⟨r, f, m, hf, hr, q⟩ := h
  unfold sAug at q
  split at q
  · rename_i x hx
    obtain ⟨v, h1, h2⟩ := hf.get hx
    refine ⟨v, h1, tM_of hf hr ?_⟩
    have q2 : Fi k (RV k) r H ((g f m).bind fun y m1 => up (F x y m1)) (fun z H2 => E.nx (σ.set i (some z)) H2) fun c d H' => W c d σ H' :=
      FiS.of hf q fun d m1 r1 v H1 p kp hr1 hv q1 => FiS.nx q1 hr1 ((hf.more p kp).set i hv)
    exact Fi.bind q2 fun y m1 r1 u H1 p kp hr1 hu q3 => ⟨r1, m1, x, y, hr1, RV.more p kp x v h2, hu, Fi.ok q3⟩
  · exact q.elim

/-! ### while -/
def loopW (t : Fr → MH → Out Bool) (b : GS) : Nat → GS
  | 0, _, _ => .no
  | n + 1, f, m => SO.of f (t f m) fun c m1 => if c then
      match b f m1 with
      | .go .nx f2 m2 => loopW t b n f2 m2
      | .go .ct f2 m2 => loopW t b n f2 m2
      | .go .bk f2 m2 => .go .nx f2 m2
      | o => o
    else .go .nx f m1
@[irreducible] def wfuel : Nat := 1000000
def sWhile (t : Fr → MH → Out Bool) (b : GS) : GS := loopW t b wfuel
theorem FiS.body {r : List Addr} {H : Hp} {o : SO} {E : Ends} {c : GS} (q : FiS k W r H (match o with
      | .go .nx f2 m2 => c f2 m2
      | .go .ct f2 m2 => c f2 m2
      | .go .bk f2 m2 => .go .nx f2 m2
      | o => o) E) {N : L2.St → Hp → Prop} (hN : ∀ r σ H f m, RF k r H f σ → HR k r m H → FiS k W r H (c f m) E → N σ H) : FiS k W r H o { E with nx := N, ct := N, bk := E.nx } := by
  cases o with
  | go l f m =>
    cases l with
    | nx => exact fun r1 σ1 H1 p kp hr hf => hN r1 σ1 H1 f m hf hr (FiS.weak p kp q)
    | ret d => exact q
    | bk => exact fun r1 σ1 H1 p kp hr hf => q r1 σ1 H1 p kp hr hf
    | ct => exact fun r1 σ1 H1 p kp hr hf => hN r1 σ1 H1 f m hf hr (FiS.weak p kp q)
  | ex x f m => exact q
  | no => exact q
theorem ss_while {c : Expr} {sb : List Stmt} (hp : PassesOwn (model X.prog X.w) X.A X.env X.xe) (hc : ST X W k c ta) (hb : SSs X W k sb b) : SS X W k (.While c sb [] pos) (sWhile ta b) := by
  refine ⟨fun pins s σ H E I h => (ps_while hp hc hb).run pins s σ H E I ?_⟩
  refine ⟨fun n σ H => tS k W (loopW ta b n) E σ H, ⟨_, h⟩, fun n σ H h => ?_⟩
  cases n with
  | zero =>
    obtain ⟨r, f, m, hf, hr, q⟩ := h
    exact q.elim
  | succ n =>
    obtain ⟨r, f, m, hf, hr, q⟩ := h
    refine tM_of hf hr (FiS.of (R := RB) hf q fun d m1 r1 v H1 p kp hr1 hv q1 => ?_)
    have e : v = d := hv
    subst e
    cases v with
    | false => exact FiS.nx q1 hr1 (hf.more p kp)
    | true =>
      refine ⟨fun σ' H' => tS k W (loopW ta b n) E σ' H', fun σ' H' h' => ⟨n, Nat.lt_succ_self n, h'⟩, r1, f, m1, hf.more p kp, hr1, ?_⟩
      exact FiS.body (c := loopW ta b n) q1 fun r σ H f m h1 h2 h3 => ⟨r, f, m, h1, h2, h3⟩

/-! ### for -/
abbrev Src := Nat → MH → Option (Option D)
/-- the iterator feeds what src tells -/
def Feed (k : Kx) : Rel Src It := fun r0 H0 src J => ∀ r H m, r0 <+: r → Keep H0 H → HR k r m H → ∀ i,
  (src i m = some none → J.stop i H) ∧ ∀ d, src i m = some (some d) → J.go i H ∧ ∀ x H', J.yld i H x H' → Keep H H' ∧ HR k r m H' ∧ RV k r H' d x
def SI (X : Cx) (W : WX) (k : Kx) (tg iter : Expr) (g : Fr → MH → Out Src) : Prop := PI X tg iter (tM k (Feed k) W g)
def loopN (src : Src) (T : Tg) (b : GS) : Nat → Nat → GS
  | 0, _, _, _ => .no
  | n + 1, i, f, m => match src i m with
    | none => .no
    | some none => .go .nx f m
    | some (some d) => match T.set d f with
      | none => .no
      | some f1 => match b f1 m with
        | .go .nx f2 m2 => loopN src T b n (i + 1) f2 m2
        | .go .ct f2 m2 => loopN src T b n (i + 1) f2 m2
        | .go .bk f2 m2 => .go .nx f2 m2
        | o => o
def sFor (g : Fr → MH → Out Src) (T : Tg) (b : GS) : GS := fun f m => SO.of f (g f m) fun src m1 => loopN src T b wfuel 0 f m1
theorem ss_for {tg iter : Expr} {sb : List Stmt} {T : Tg} {gi : Fr → MH → Out Src} (hK : k.K = X.K) (hp : PassesOwn (model X.prog X.w) X.A X.env X.xe) (hc : X.calm = true) (hi : SI X W k tg iter gi) (hg : SG X tg T) (hb : SSs X W k sb b)
    (hs : ∀ x, foldedSetIterable iter X.env x = pure x := by intro _; rfl) : SS X W k (.For tg iter sb [] pos) (sFor gi T b) := by
  refine ⟨fun pins s σ H E I h => (ps_for hp hc hi hg hb hs).run pins s σ H E I ?_⟩
  refine tS_bind (R := Feed k) (h := fun src f m1 => loopN src T b wfuel 0 f m1) h fun src r0 f m J H0 hf hr hv q => ?_
  refine ⟨fun i n σ H => ∃ r f m, r0 <+: r ∧ Keep H0 H ∧ RF k r H f σ ∧ HR k r m H ∧ FiS k W r H (loopN src T b n i f m) E, ⟨wfuel, r0, f, m, List.prefix_refl _, .refl _, hf, hr, q⟩, ?_⟩
  rintro i n σ H ⟨r, f, m, p, kp, hf, hr, q⟩
  cases n with
  | zero => exact q.elim
  | succ n =>
    unfold loopN at q
    have fd := hv r H m p kp hr i
    cases e : src i m with
    | none =>
      simp only [e] at q
      exact q.elim
    | some o =>
      cases o with
      | none =>
        simp only [e] at q
        exact .inl ⟨fd.1 e, FiS.nx q hr hf⟩
      | some d =>
        simp only [e] at q
        obtain ⟨go, yl⟩ := fd.2 d e
        refine .inr ⟨go, fun σ' H' => ∃ r f m, r0 <+: r ∧ Keep H0 H' ∧ RF k r H' f σ' ∧ HR k r m H' ∧ FiS k W r H' (loopN src T b n (i + 1) f m) E, fun σ' H' h' => ⟨n, Nat.lt_succ_self n, h'⟩, fun x H' y => ?_⟩
        obtain ⟨kp', hr', hv'⟩ := yl x H' y
        cases e2 : T.set d f with
        | none =>
          simp only [e2] at q
          exact q.elim
        | some f1 =>
          simp only [e2] at q
          refine tG_of (m := m) hK (hf.more (List.prefix_refl r) kp') hv' e2 fun σ2 hf2 => ⟨r, f1, m, hf2, hr', ?_⟩
          have q' := FiS.weak (List.prefix_refl r) kp' q
          generalize hbo : b f1 m = o at q' ⊢
          cases o with
          | go l f2 m2 =>
            cases l with
            | nx => exact fun r1 σ1 H1 p1 kp1 hr1 hf1 => ⟨r1, f2, m2, p.trans p1, (kp.trans kp').trans kp1, hf1, hr1, FiS.weak p1 kp1 q'⟩
            | ret d => exact q'
            | bk => exact fun r1 σ1 H1 p1 kp1 hr1 hf1 => q' r1 σ1 H1 p1 kp1 hr1 hf1
            | ct => exact fun r1 σ1 H1 p1 kp1 hr1 hf1 => ⟨r1, f2, m2, p.trans p1, (kp.trans kp').trans kp1, hf1, hr1, FiS.weak p1 kp1 q'⟩
          | ex x f2 m2 => exact q'
          | no => exact q'
end
end Mn
end

section
/-! Mini, part E: what is left behind a call (fresh objects that nothing needs are forgotten); defs and their calls; the law's end. -/
namespace Mn
open PySem PySem.Spec PyProof.Rows L2

/-! ## which objects a value needs -/
mutual
def D.refs : D → List Nat
  | .tup xs => refsL xs
  | .frl xs => refsL xs
  | .ref n => [n]
  | _ => []
def refsL : List D → List Nat
  | [] => []
  | x :: xs => D.refs x ++ refsL xs
end
def refsK : List (DK × D) → List Nat
  | [] => []
  | x :: xs => x.2.refs ++ refsK xs
def refsF : List (Str × D) → List Nat
  | [] => []
  | x :: xs => x.2.refs ++ refsF xs
def MO.refs : MO → List Nat
  | .lst xs => refsL xs
  | .dct xs => refsK xs
  | .ins _ fs => refsF fs
mutual
def D.ren (p : Nat → Nat) : D → D
  | .tup xs => .tup (renL p xs)
  | .frl xs => .frl (renL p xs)
  | .ref n => .ref (p n)
  | .non => .non
  | .bl b => .bl b
  | .int i => .int i
  | .str x => .str x
  | .cst n => .cst n
def renL (p : Nat → Nat) : List D → List D
  | [] => []
  | x :: xs => D.ren p x :: renL p xs
end
def renK (p : Nat → Nat) : List (DK × D) → List (DK × D)
  | [] => []
  | x :: xs => (x.1, x.2.ren p) :: renK p xs
def renF (p : Nat → Nat) : List (Str × D) → List (Str × D)
  | [] => []
  | x :: xs => (x.1, x.2.ren p) :: renF p xs
def MO.ren (p : Nat → Nat) : MO → MO
  | .lst xs => .lst (renL p xs)
  | .dct xs => .dct (renK p xs)
  | .ins C fs => .ins C (renF p fs)
section
variable {k : Kx} {r r' : List Addr} {H : Hp} {p : Nat → Nat}
mutual
theorem RV.ren : ∀ (d : D) (v : V), (∀ i ∈ d.refs, ∀ a, r[i]? = some a → r'[p i]? = some a) → RV k r H d v → RV k r' H (d.ren p) v
  | .non, _, _, h => h
  | .bl _, _, _, h => h
  | .int _, _, _, h => h
  | .str _, _, _, h => h
  | .cst _, _, _, h => h
  | .tup xs, _, e, ⟨a, ys, e1, t, q⟩ => ⟨a, ys, e1, t, RVs.ren xs ys e q⟩
  | .frl xs, _, e, ⟨a, ys, e1, t, q⟩ => ⟨a, ys, e1, t, RVs.ren xs ys e q⟩
  | .ref n, _, e, ⟨a, e1, q⟩ => ⟨a, e1, e n (List.mem_singleton.mpr rfl) a q⟩
theorem RVs.ren : ∀ (ds : List D) (vs : List V), (∀ i ∈ refsL ds, ∀ a, r[i]? = some a → r'[p i]? = some a) → RVs k r H ds vs → RVs k r' H (renL p ds) vs
  | [], _, _, h => h
  | x :: xs, _, e, ⟨y, t, e1, q, z⟩ => ⟨y, t, e1, RV.ren x y (fun i hi => e i (List.mem_append_left _ hi)) q, RVs.ren xs t (fun i hi => e i (List.mem_append_right _ hi)) z⟩
end
theorem RKs.ren : ∀ (ds : List (DK × D)) (vs : List (Key × V)), (∀ i ∈ refsK ds, ∀ a, r[i]? = some a → r'[p i]? = some a) → RKs k r H ds vs → RKs k r' H (renK p ds) vs
  | [], _, _, h => h
  | x :: xs, _, e, ⟨y, t, e1, q, z⟩ => ⟨y, t, e1, RV.ren _ y (fun i hi => e i (List.mem_append_left _ hi)) q, RKs.ren xs t (fun i hi => e i (List.mem_append_right _ hi)) z⟩
theorem RFs.ren : ∀ (ds : List (Str × D)) (vs : List (Str × V)), (∀ i ∈ refsF ds, ∀ a, r[i]? = some a → r'[p i]? = some a) → RFs k r H ds vs → RFs k r' H (renF p ds) vs
  | [], _, _, h => h
  | x :: xs, _, e, ⟨y, t, e1, q, z⟩ => ⟨y, t, e1, RV.ren _ y (fun i hi => e i (List.mem_append_left _ hi)) q, RFs.ren xs t (fun i hi => e i (List.mem_append_right _ hi)) z⟩
theorem RO.ren {a : Addr} : ∀ (o : MO), (∀ i ∈ o.refs, ∀ a, r[i]? = some a → r'[p i]? = some a) → RO k r H a o → RO k r' H a (o.ren p)
  | .lst xs, e, ⟨ys, h, q⟩ => ⟨ys, h, RVs.ren xs ys e q⟩
  | .dct xs, e, ⟨ys, h, q⟩ => ⟨ys, h, RKs.ren xs ys e q⟩
  | .ins C fs, e, ⟨dx, ys, h, q⟩ => ⟨dx, ys, h, RFs.ren fs ys e q⟩
mutual
theorem D.ren_id : ∀ (d : D), (∀ i ∈ d.refs, p i = i) → d.ren p = d
  | .non, _ => rfl
  | .bl _, _ => rfl
  | .int _, _ => rfl
  | .str _, _ => rfl
  | .cst _, _ => rfl
  | .tup xs, e => congrArg D.tup (renL_id xs e)
  | .frl xs, e => congrArg D.frl (renL_id xs e)
  | .ref n, e => congrArg D.ref (e n (List.mem_singleton.mpr rfl))
theorem renL_id : ∀ (ds : List D), (∀ i ∈ refsL ds, p i = i) → renL p ds = ds
  | [], _ => rfl
  | x :: xs, e => by
    show D.ren p x :: renL p xs = x :: xs
    rw [D.ren_id x fun i hi => e i (List.mem_append_left _ hi), renL_id xs fun i hi => e i (List.mem_append_right _ hi)]
end
theorem renK_id : ∀ (ds : List (DK × D)), (∀ i ∈ refsK ds, p i = i) → renK p ds = ds
  | [], _ => rfl
  | x :: xs, e => by
    show (x.1, D.ren p x.2) :: renK p xs = x :: xs
    rw [D.ren_id x.2 fun i hi => e i (List.mem_append_left _ hi), renK_id xs fun i hi => e i (List.mem_append_right _ hi)]
theorem renF_id : ∀ (ds : List (Str × D)), (∀ i ∈ refsF ds, p i = i) → renF p ds = ds
  | [], _ => rfl
  | x :: xs, e => by
    show (x.1, D.ren p x.2) :: renF p xs = x :: xs
    rw [D.ren_id x.2 fun i hi => e i (List.mem_append_left _ hi), renF_id xs fun i hi => e i (List.mem_append_right _ hi)]
theorem MO.ren_id : ∀ (o : MO), (∀ i ∈ o.refs, p i = i) → o.ren p = o
  | .lst xs, e => congrArg MO.lst (renL_id xs e)
  | .dct xs, e => congrArg MO.dct (renK_id xs e)
  | .ins C fs, e => congrArg (MO.ins C) (renF_id fs e)
-- what a value needs is there
mutual
theorem RV.lt : ∀ (d : D) (v : V), RV k r H d v → ∀ i ∈ d.refs, i < r.length
  | .non, _, _, _, hi => nomatch hi
  | .bl _, _, _, _, hi => nomatch hi
  | .int _, _, _, _, hi => nomatch hi
  | .str _, _, _, _, hi => nomatch hi
  | .cst _, _, _, _, hi => nomatch hi
  | .tup xs, _, ⟨_, ys, _, _, q⟩, i, hi => RVs.lt xs ys q i hi
  | .frl xs, _, ⟨_, ys, _, _, q⟩, i, hi => RVs.lt xs ys q i hi
  | .ref n, _, ⟨_, _, q⟩, i, hi => by
    rw [List.mem_singleton.mp hi]
    exact (List.getElem?_eq_some_iff.mp q).1
theorem RVs.lt : ∀ (ds : List D) (vs : List V), RVs k r H ds vs → ∀ i ∈ refsL ds, i < r.length
  | [], _, _, _, hi => nomatch hi
  | x :: xs, _, ⟨y, t, _, q, z⟩, i, hi => (List.mem_append.mp hi).elim (RV.lt x y q i) (RVs.lt xs t z i)
end
theorem RKs.lt : ∀ (ds : List (DK × D)) (vs : List (Key × V)), RKs k r H ds vs → ∀ i ∈ refsK ds, i < r.length
  | [], _, _, _, hi => nomatch hi
  | x :: xs, _, ⟨y, t, _, q, z⟩, i, hi => (List.mem_append.mp hi).elim (RV.lt _ y q i) (RKs.lt xs t z i)
theorem RFs.lt : ∀ (ds : List (Str × D)) (vs : List (Str × V)), RFs k r H ds vs → ∀ i ∈ refsF ds, i < r.length
  | [], _, _, _, hi => nomatch hi
  | x :: xs, _, ⟨y, t, _, q, z⟩, i, hi => (List.mem_append.mp hi).elim (RV.lt _ y q i) (RFs.lt xs t z i)
theorem RO.lt {a : Addr} : ∀ (o : MO), RO k r H a o → ∀ i ∈ o.refs, i < r.length
  | .lst xs, ⟨ys, _, q⟩ => RVs.lt xs ys q
  | .dct xs, ⟨ys, _, q⟩ => RKs.lt xs ys q
  | .ins C fs, ⟨_, ys, _, q⟩ => RFs.lt fs ys q
end
theorem nd_ix {α : Type} {N : List α} (hN : N.Nodup) {i j : Nat} {x : α} (a : N[i]? = some x) (b : N[j]? = some x) : i = j := by
  obtain ⟨_, g1⟩ := List.getElem?_eq_some_iff.mp a
  obtain ⟨_, g2⟩ := List.getElem?_eq_some_iff.mp b
  exact (List.getElem_inj hN).mp (g1.trans g2.symm)
theorem map_nd {α β : Type} {f : α → β} : ∀ {l : List α}, l.Nodup → (∀ i ∈ l, ∀ j ∈ l, f i = f j → i = j) → (l.map f).Nodup
  | [], _, _ => List.Pairwise.nil
  | x :: l, h, q => by
    obtain ⟨h1, h2⟩ := List.nodup_cons.mp h
    rw [List.map_cons]
    refine List.nodup_cons.mpr ⟨fun z => ?_, map_nd h2 fun i hi j hj => q i (List.mem_cons_of_mem _ hi) j (List.mem_cons_of_mem _ hj)⟩
    obtain ⟨j, hj, e⟩ := List.mem_map.mp z
    have := q j (List.mem_cons_of_mem _ hj) x List.mem_cons_self e
    subst this
    exact h1 hj

/-- the fresh ones among what is needed, three steps deep -/
def freshOf (n : Nat) (l : List Nat) : List Nat := (l.filter fun i => decide (n ≤ i)).eraseDups
def needs (n : Nat) (m : MH) (l : List Nat) : List Nat := freshOf n (l ++ l.flatMap fun j => (m[j]?.map MO.refs).getD [])
def reach (n : Nat) (d : D) (m : MH) : List Nat := needs n m (needs n m (needs n m (freshOf n d.refs)))
def place (n : Nat) (rs : List Nat) (i : Nat) : Nat := if i < n then i else n + rs.idxOf i
structure GcOk (m0 : MH) (d : D) (m1 : MH) (rs : List Nat) : Prop where
  le : m0.length ≤ m1.length
  old : ∀ i, i < m0.length → m1[i]? = m0[i]? ∨ ∀ o, m1[i]? = some o → ∀ j ∈ o.refs, j < m0.length
  nd : rs.Nodup
  new : ∀ j ∈ rs, m0.length ≤ j ∧ j < m1.length
  all : ∀ i ∈ d.refs, i < m0.length ∨ i ∈ rs
  ins : ∀ j ∈ rs, ∀ o, m1[j]? = some o → ∀ i ∈ o.refs, i < m0.length ∨ i ∈ rs
open Classical in
noncomputable def gc (m0 : MH) (d : D) (m1 : MH) : D × MH :=
  if GcOk m0 d m1 (reach m0.length d m1) then
    (d.ren (place m0.length (reach m0.length d m1)), m1.take m0.length ++ (reach m0.length d m1).map fun j => (m1.getD j (.lst [])).ren (place m0.length (reach m0.length d m1)))
  else (d, m1)
theorem idx_get {rs : List Nat} {i : Nat} (h : i ∈ rs) : rs[rs.idxOf i]? = some i := by
  have hl := List.idxOf_lt_length_of_mem h
  rw [List.getElem?_eq_getElem hl]
  exact congrArg some (List.getElem_idxOf hl)
theorem gc_ok {k : Kx} {r r1 : List Addr} {H H1 : Hp} {m0 m1 : MH} {d : D} {v : V} (hr : HR k r m0 H) (p : r <+: r1) (hr1 : HR k r1 m1 H1) (hv : RV k r1 H1 d v) :
    ∃ r2, r <+: r2 ∧ HR k r2 (gc m0 d m1).2 H1 ∧ RV k r2 H1 (gc m0 d m1).1 v := by
  unfold gc
  split
  · rename_i G
    generalize reach m0.length d m1 = rs at G
    have get1 : ∀ j, j ∈ rs → ∃ a, r1[j]? = some a := fun j hj => by
      have hl : j < r1.length := by
        rw [hr1.len]
        exact (G.new j hj).2
      exact ⟨r1[j], List.getElem?_eq_getElem hl⟩
    have key : ∀ i a, (i < m0.length ∨ i ∈ rs) → r1[i]? = some a → (r ++ rs.map fun j => r1.getD j 0)[place m0.length rs i]? = some a := fun i a hi e => by
      by_cases hlt : i < m0.length
      · have hl : i < r.length := by
          rw [hr.len]
          exact hlt
        rw [place, if_pos hlt, List.getElem?_append_left hl]
        obtain ⟨t, rfl⟩ := p
        rw [List.getElem?_append_left hl] at e
        exact e
      · have hm := hi.resolve_left hlt
        rw [place, if_neg hlt, ← hr.len, List.getElem?_append_right (Nat.le_add_right _ _), Nat.add_sub_cancel_left, List.getElem?_map, idx_get hm]
        show some (r1.getD i 0) = some a
        rw [List.getD_eq_getElem?_getD, e]
        rfl
    refine ⟨r ++ rs.map fun j => r1.getD j 0, List.prefix_append _ _, ⟨?_, ?_, fun i o a e1 e2 => ?_⟩, RV.ren d v (fun i hi a e => key i a (G.all i hi) e) hv⟩
    · rw [List.length_append, List.length_append, List.length_map, List.length_map, List.length_take, hr.len, Nat.min_eq_left G.le]
    · refine List.nodup_append.mpr ⟨hr.nd, ?_, fun a ha b hb z => ?_⟩
      · refine map_nd G.nd fun i hi j hj e => ?_
        obtain ⟨a, ea⟩ := get1 i hi
        obtain ⟨b, eb⟩ := get1 j hj
        rw [List.getD_eq_getElem?_getD, List.getD_eq_getElem?_getD, ea, eb] at e
        have e : a = b := e
        subst e
        exact nd_ix hr1.nd ea eb
      · subst z
        obtain ⟨j, hj, e⟩ := List.mem_map.mp hb
        obtain ⟨b, eb⟩ := get1 j hj
        rw [List.getD_eq_getElem?_getD, eb] at e
        have e : b = a := e
        subst e
        obtain ⟨i, ei⟩ := List.mem_iff_getElem?.mp ha
        have h1 := nd_ix hr1.nd (pre_get p ei) eb
        have h2 := (List.getElem?_eq_some_iff.mp ei).1
        have h3 := (G.new j hj).1
        rw [hr.len] at h2
        omega
    · by_cases hlt : i < m0.length
      · have hl : i < r.length := by
          rw [hr.len]
          exact hlt
        have hl2 : i < (m1.take m0.length).length := by
          rw [List.length_take, Nat.min_eq_left G.le]
          exact hlt
        rw [List.getElem?_append_left hl2, List.getElem?_take_of_lt hlt] at e1
        rw [List.getElem?_append_left hl] at e2
        have q := hr1.ob i o a e1 (pre_get p e2)
        have small : ∀ j ∈ o.refs, j < m0.length := fun j hj => by
          rcases G.old i hlt with h | h
          · rw [h] at e1
            have q1 := RO.lt o (hr.ob i o a e1 e2) j hj
            rw [hr.len] at q1
            exact q1
          · exact h o e1 j hj
        have id : o.ren (place m0.length rs) = o := MO.ren_id o fun j hj => if_pos (small j hj)
        rw [← id]
        exact RO.ren o (fun j hj a e => key j a (.inl (small j hj)) e) q
      · have hl : ¬ i < (m1.take m0.length).length := by
          rw [List.length_take, Nat.min_eq_left G.le]
          exact hlt
        have hl2 : ¬ i < r.length := by
          rw [hr.len]
          exact hlt
        rw [List.getElem?_append_right (Nat.le_of_not_lt hl), List.length_take, Nat.min_eq_left G.le, List.getElem?_map] at e1
        rw [List.getElem?_append_right (Nat.le_of_not_lt hl2), hr.len, List.getElem?_map] at e2
        cases e3 : rs[i - m0.length]? with
        | none =>
          rw [e3] at e1
          cases e1
        | some j =>
          rw [e3] at e1 e2
          cases e1
          cases e2
          have hj := List.mem_of_getElem? e3
          obtain ⟨b, eb⟩ := get1 j hj
          obtain ⟨o1, eo, qo⟩ := hr1.at eb
          show RO k _ H1 (r1.getD j 0) ((m1.getD j (.lst [])).ren _)
          rw [List.getD_eq_getElem?_getD, List.getD_eq_getElem?_getD, eb, eo]
          exact RO.ren o1 (fun i hi a e => key i a (G.ins j hj o1 eo i hi) e) qo
  · exact ⟨r1, p, hr1, hv⟩
end Mn
end

section
/-! Mini, part F: defs, their calls, the law's end. -/
namespace Mn
open PySem PySem.Spec PyProof.Rows L2

noncomputable def gcO (m0 : MH) : Out D → Out D
  | .ok d m => .ok (gc m0 d m).1 (gc m0 d m).2
  | o => o
/-- what a def's body comes to -/
def bodyO : SO → Out D
  | .go .nx _ m => .ok .non m
  | .go (.ret d) _ m => .ok d m
  | .ex x _ m => .ex x m
  | _ => .no
/-- a def: so many names, its body -/
noncomputable def fnD (N : Nat) (g : GS) : List D → MH → Out D := fun ds m => gcO m (bodyO (g (ds.map some ++ List.replicate (N - ds.length) none) m))

structure FnM (P : Program) (w : World) (mg : Str → Option Value) (base : Heap) (k : Kx) (n : Nat) (f : Addr) (fd : FuncData) (ps : List Str) (F : List D → MH → Out D) : Prop where
  run : ∀ (A : Around) (outer : List Env) (s : Shared) (H : Hp) (args : Args) (us : List Value) (vs : List V) (Q : VK) (E : XK) (r : List Addr) (m : MH) (ds : List D),
    Room n A → A.guards = some [] → Env0 P w k.K mg base A outer s H → BindsTo s fd args (ps.zip us) → Vals vs us → HR k r m H → RVs k r H ds vs → ds.length = ps.length → Fi k (RV k) r H (F ds m) Q E →
    codeAny (model P w) A (.call (.ref f) args) (CR (L2.CX P w) outer P w H s Q E) s
section
variable {P : Program} {w : World} {mg : Str → Option Value} {base : Heap} {k : Kx} {n : Nat} {f : Addr} {fd : FuncData} {ps : List Str} {F : List D → MH → Out D}
theorem FnM.mono {n' : Nat} (G : FnM P w mg base k n f fd ps F) (h : n ≤ n') : FnM P w mg base k n' f fd ps F :=
  ⟨fun A outer s H args us vs Q E r m ds hr => G.run A outer s H args us vs Q E r m ds (hr.mono h)⟩
theorem guards_deeper {A : Around} (h : A.guards = some []) (env : Env) : (A.deeper env).guards = some [] := h
/-- a body's context -/
theorem at_body {N : List Str} {qual : Str} {scope : Scope} {cdv : Value} {A : Around} {outer : List Env} {s : Shared} {H : Hp} {E : XK} (hn : N.Nodup) (hg : A.guards = some []) (hr : Room n (A.deeper (envOfC qual scope s.heap.objs.size f cdv))) :
    At (cxOf (L2.CX P w) P w k.K mg base N qual scope f cdv A outer s H E) (fun c d _ H' => E c d H') k n :=
  ⟨rfl, takes_of rfl rfl rfl rfl, hg, hr, rfl, hn, passes_of rfl⟩
/-- a def of the text, by its body -/
theorem FnM.of {name qual : Str} {params : Arguments} {body : List Stmt} {scope : Scope} {dV kV doc pm cdv ct oc : Value} {an od : Option Addr} {osl : Array (Option Value)} {N : List Str} {g : GS}
    (lk : k.K.lookup f = some ⟨oc, od, .func (PySem.W.fnOf name qual params body scope dV kV doc pm an cdv ct), osl⟩) (hcd : PySem.W.codeIn k.K cdv qual = true) (S : FnScope N ps scope)
    (hb : ∀ (A : Around) (outer : List Env) (s : Shared) (H : Hp) (E : XK), At (cxOf (L2.CX P w) P w k.K mg base N qual scope f cdv A outer s H E) (fun c d _ H' => E c d H') k n →
      SSs (cxOf (L2.CX P w) P w k.K mg base N qual scope f cdv A outer s H E) (fun c d _ H' => E c d H') k body g) :
    FnM P w mg base k (n + 1) f (PySem.W.fnOf name qual params body scope dV kV doc pm an cdv ct) ps (fnD N.length g) := by
  refine ⟨fun A outer s H args us vs Q E r m ds hr hg e0 hbind rv hm hd hl q => ?_⟩
  have hvl : vs.length = ps.length := by rw [← hd.length, hl]
  have kin : k.K.In s.heap := e0.mod.kin.keeps fun b o e => (e0.bs b o e).1
  have lim : s.heap.NoLimit := e0.mod.nolimit.keeps fun b o e => (e0.bs b o e).1
  have hkind : ∀ y ∈ ps.zip us, scope.names.lookup y.1 = some .local ∨ (scope.names.lookup y.1 = some .cell ∧ ((cellsFrom (s.heap.objs.size + 1) scope.names []).lookup y.1).isSome = true) := by
    intro y hy
    rcases S.par y.1 (List.of_mem_zip hy).1 with z | z
    · exact Or.inl z
    · exact Or.inr ⟨z, PySem.W.cellsFrom_some _ _ _ (Or.inl z)⟩
  refine codeAny_call_function hr.depth (kin _ _ lk) rfl S.co S.gen rfl (PySem.W.codeRec_of kin hcd) (hbind _ _ _ _ ?_)
  refine wpAny_newFunctionEnv_cells S.kind hkind fun env he s1 x => ?_
  subst he
  refine ⟨lim.keeps x.toInCall.keep, codeAny_func ?_⟩
  have I : L2.Inv (cxOf (L2.CX P w) P w k.K mg base N qual scope f cdv A outer s H E) [] (start N vs) H s1 := inv_start S hr.hd e0 hvl rv x
  have A1 : At (cxOf (L2.CX P w) P w k.K mg base N qual scope f cdv A outer s H E) (fun c d _ H' => E c d H') k n := at_body S.nd hg (hr.deeper _)
  have B := hb _ _ _ _ _ A1
  have fin : ∀ {σ' : L2.St} {H' : Hp} {s' : Shared} {v : V} {u : Value}, L2.Inv (cxOf (L2.CX P w) P w k.K mg base N qual scope f cdv A outer s H E) [] σ' H' s' → RelV v u → Q v H' → CE outer P w H s Q u s' :=
    fun {σ' H' s' v u} J rv q => ⟨v, H', J.os, J.bare, J.base, J.hok, rv, q⟩
  refine wpAny_mono (B.run [] s1 (start N vs) H { nx := fun _ H' => Q .non H', rt := Q } I ?_) (fun fl s' hs => ?_) fun e s' hs => hs
  · refine ⟨r, ds.map some ++ List.replicate (N.length - ds.length) none, m, ?_, hm, ?_⟩
    · have e : N.length - ds.length = N.length - vs.length := by rw [hl, hvl]
      rw [e]
      exact RF.start hd
    · unfold fnD at q
      revert q
      cases hS : g (ds.map some ++ List.replicate (N.length - ds.length) none) m with
      | go l f1 m1 =>
        cases l with
        | nx =>
          intro q r1 σ1 H1 p kp hr1 hf1
          obtain ⟨r2, p2, h2, h3⟩ := gc_ok hm p hr1 (show RV k r1 H1 .non .non from rfl)
          exact q r2 .non H1 p2 kp h2 h3
        | ret d =>
          intro q r1 v H1 p kp hr1 hv1
          obtain ⟨r2, p2, h2, h3⟩ := gc_ok hm p hr1 hv1
          exact q r2 v H1 p2 kp h2 h3
        | bk => exact fun q => q.elim
        | ct => exact fun q => q.elim
      | ex x f1 m1 => exact fun q r1 c dx σ1 H1 p kp hr1 hf1 hx => q r1 c dx H1 p kp hr1 hx
      | no => exact fun q => q.elim
  · cases fl with
    | ret u =>
      obtain ⟨v, σ', H', J, rv', q'⟩ := hs
      exact fin J rv' q'
    | next =>
      obtain ⟨σ', H', J, q'⟩ := hs
      exact fin (v := V.non) (u := Value.none) J rfl q'
    | brk =>
      obtain ⟨_, _, _, q'⟩ := hs
      exact q'.elim
    | cont =>
      obtain ⟨_, _, _, q'⟩ := hs
      exact q'.elim
end

/-! ### calls -/
/-- how a call binds: n values by place, keywords ks; gD puts them in the parameters' order, with the defaults -/
structure KB (k : Kx) (fd : FuncData) (ps : List Str) (n : Nat) (ks : List Str) (gD : List D → List D → List D) : Prop where
  ex : ∃ g gV, KBn k.K fd ps n ks g gV ∧ ∀ (r : List Addr) (H : Hp) (vs zs : List V) (ds es : List D), RVs k r H ds vs → RVs k r H es zs → ds.length = n → es.length = ks.length → RVs k r H (gD ds es) (gV vs zs) ∧ (gD ds es).length = ps.length
def gCall (F : List D → MH → Out D) (gD : List D → List D → List D) (n m : Nat) (t tk : Fr → MH → Out (List D)) : Fr → MH → Out D :=
  fun f h => (t f h).bind fun ds h1 => (tk f h1).bind fun es h2 => if ds.length = n ∧ es.length = m then F (gD ds es) h2 else .no
def SK (X : Cx) (W : WX) (k : Kx) (kws : List Keyword) (g : Fr → MH → Out (List D)) : Prop := PK X kws (tM k (RVs k) W g)
section
variable {X : Cx} {W : WX} {k : Kx} {n : Nat} {f : Addr} {fd : FuncData} {ps ks : List Str} {F : List D → MH → Out D} {x : Str} {p pos : Pos} {e : Expr} {es : List Expr} {kws : List Keyword} {t tk : Fr → MH → Out (List D)} {gD : List D → List D → List D} {g : Fr → MH → Out D}
theorem sk_nil : SK X W k [] gNil := ⟨fun ps pins s σ H Q I ⟨r, f, m, hf, hr, q⟩ => pk_nil.run ps pins s σ H Q I (Fi.pure q hr rfl)⟩
theorem sk_cons {nm : Option Str} {kpos : Pos} (ha : SE X W k e g) (ht : SK X W k kws tk) : SK X W k (⟨nm, e, kpos⟩ :: kws) (gCons g tk) := by
  refine ⟨fun ps pins s σ H Q I h => (pk_cons ha ht).run ps pins s σ H Q I ?_⟩
  exact tM_bind h fun x r f m v H1 hf hr hv q => tM_of hf hr (Fi.bind q fun xs m2 r2 vs H2 p kp hr2 hvs q2 => Fi.pure q2 hr2 ⟨v, vs, rfl, RV.more p kp x v hv, hvs⟩)
/-- the callee runs -/
theorem run_fm {pins : List (Addr × Obj)} {σ : L2.St} {H : Hp} {s : Shared} {Q : VK} {us ws : List Value} {vs zs : List V} {r : List Addr} {m : MH} {ds es : List D} (A : At X W k n) (G : FnM X.prog X.w X.mg X.base k n f fd ps F) (B : KB k fd ps ds.length ks gD)
    (I : L2.Inv X pins σ H s) (rv : Vals vs us) (rz : Vals zs ws) (hr : HR k r m H) (hd : RVs k r H ds vs) (he : RVs k r H es zs) (hl : es.length = ks.length) (q : Fi k (RV k) r H (F (gD ds es) m) Q fun c d H' => W c d σ H') :
    wpAny (model X.prog X.w) X.A (call (.ref f) us (ks.zip ws)) (EP X pins σ Q) X.xe s := by
  obtain ⟨g, gV, Bn, rel⟩ := B.ex
  have l1 : us.length = ds.length := by rw [← rv.length, hd.length]
  have l2 : ws.length = ks.length := by rw [← rz.length, ← he.length, hl]
  obtain ⟨hD, hL⟩ := rel r H vs zs ds es hd he rfl hl
  have kin : k.K.In s.heap := by
    rw [A.kk]
    exact I.kIn
  have e0 : Env0 X.prog X.w k.K X.mg X.base X.A X.stack s H := by
    rw [A.kk]
    exact I.env0
  refine wpAny_call (codeAny_mono (G.run X.A X.stack s H ⟨us, ks.zip ws⟩ (g us ws) (gV vs zs) Q _ r m (gD ds es) A.hr A.gd e0 (Bn.to s us ws kin l1 l2) (Bn.rel rv rz) hr hD hL q) fun res s' hq => ?_)
  match res, hq with
  | .error er, hq => exact A.tk er s' (XE.of_call I (fun _ _ _ z => z) hq)
  | .ok (.ret u), hq => exact I.after hq
  | .ok .next, hq => exact hq.elim
  | .ok .brk, hq => exact hq.elim
  | .ok .cont, hq => exact hq.elim
/-- f(e, .., k = v, ..) -/
theorem se_call (A : At X W k n) (G : FnM X.prog X.w X.mg X.base k n f fd ps F) (hg : Gl X x) (hm : X.mg x = some (.ref f)) (hk : PySem.W.keepIn X.K (.ref f) = true) {j : Nat} (B : KB k fd ps j ks gD) (ha : SA X W k (e :: es) t) (hkw : SK X W k kws tk)
    (hall : (backToKw pos (keywordEach kws X.env)).all (·.1.isSome) = true := by rfl) (hks : (backToKw pos (keywordEach kws X.env)).filterMap (·.1) = ks := by rfl) (hdb : (x == ("__debug__" : Str)) = false := by decide)
    (he : starEach (e :: es) X.env = (false, eval e X.env) :: starEach es X.env := by rfl) (hpl : ((backTo pos (starEach (e :: es) X.env)).any (·.1) || (backToKw pos (keywordEach kws X.env)).any (·.1.isNone)) = false := by rfl) :
    SE X W k (.Call (.Name x p) (e :: es) kws pos) (gCall F gD j ks.length t tk) := by
  refine ⟨fun pins s σ H Q I h => wpAny_Call_Name_kw (ld_glob I hg hm ?_ hdb)⟩
  obtain ⟨r, f0, m, hf, hr, q⟩ := h
  have h1 : tM k (RVs k) W t σ H fun vs H1 => ∃ r1 m1 ds, RF k r1 H1 f0 σ ∧ HR k r1 m1 H1 ∧ RVs k r1 H1 ds vs ∧ Fi k (RV k) r1 H1 ((tk f0 m1).bind fun es h2 => if ds.length = j ∧ es.length = ks.length then F (gD ds es) h2 else .no) Q fun c d H' => W c d σ H' :=
    tM_of hf hr (Fi.bind q fun ds m1 r1 vs H1 p kp hr1 hds q1 => ⟨r1, m1, ds, hf.more p kp, hr1, hds, q1⟩)
  refine PySem.W.callWith_KW (h₀ := X.base) I.ok.mod.kin hk hall (thn (ha.run pos pins s σ H _ I h1) fun us s1 hq1 => ?_) hpl he
  obtain ⟨vs, H1, I1, rv, r1, m1, ds, hf1, hr1, hds, q1⟩ := hq1
  have h2 : tM k (RVs k) W tk σ H1 fun zs H2 => ∃ r2 m2 es, HR k r2 m2 H2 ∧ RVs k r2 H2 ds vs ∧ RVs k r2 H2 es zs ∧ Fi k (RV k) r2 H2 (if ds.length = j ∧ es.length = ks.length then F (gD ds es) m2 else .no) Q fun c d H' => W c d σ H' :=
    tM_of hf1 hr1 (Fi.bind q1 fun es m2 r2 zs H2 p kp hr2 hes q2 => ⟨r2, m2, es, hr2, RVs.more p kp ds vs hds, hes, q2⟩)
  refine thn (hkw.run pos pins s1 σ H1 _ I1 h2) fun ws s2 hq2 => ?_
  obtain ⟨zs, H2, I2, rz, r2, m2, es2, hr2, hds2, hes2, q2⟩ := hq2
  refine ⟨I2.kIn, ?_⟩
  rw [hks]
  split at q2
  · rename_i hl
    obtain ⟨rfl, hl⟩ := hl
    exact run_fm A G B I2 rv rz hr2 hds2 hes2 hl q2
  · exact q2.elim
/-- f(k = v, ..) and f() -/
theorem se_call0 (A : At X W k n) (G : FnM X.prog X.w X.mg X.base k n f fd ps F) (hg : Gl X x) (hm : X.mg x = some (.ref f)) (hk : PySem.W.keepIn X.K (.ref f) = true) (B : KB k fd ps 0 ks gD) (hkw : SK X W k kws tk)
    (hall : (backToKw pos (keywordEach kws X.env)).all (·.1.isSome) = true := by rfl) (hks : (backToKw pos (keywordEach kws X.env)).filterMap (·.1) = ks := by rfl) (hdb : (x == ("__debug__" : Str)) = false := by decide)
    (hpl : ((backTo pos (starEach [] X.env)).any (·.1) || (backToKw pos (keywordEach kws X.env)).any (·.1.isNone)) = false := by rfl) :
    SE X W k (.Call (.Name x p) [] kws pos) (gCall F gD 0 ks.length gNil tk) := by
  refine ⟨fun pins s σ H Q I h => wpAny_Call_Name_kw (ld_glob I hg hm ?_ hdb)⟩
  obtain ⟨r, f0, m, hf, hr, q⟩ := h
  refine PySem.W.callWith_KW0 (h₀ := X.base) I.ok.mod.kin hk hall ?_ hpl
  have h2 : tM k (RVs k) W tk σ H fun zs H2 => ∃ r2 m2 es, HR k r2 m2 H2 ∧ RVs k r2 H2 es zs ∧ Fi k (RV k) r2 H2 (if (0 : Nat) = 0 ∧ es.length = ks.length then F (gD [] es) m2 else .no) Q fun c d H' => W c d σ H' :=
    tM_of hf hr (Fi.bind (show Fi k (RV k) r H ((tk f0 m).bind fun es h2 => if ([] : List D).length = 0 ∧ es.length = ks.length then F (gD [] es) h2 else .no) Q _ from q) fun es m2 r2 zs H2 p kp hr2 hes q2 => ⟨r2, m2, es, hr2, hes, q2⟩)
  refine thn (hkw.run pos pins s σ H _ I h2) fun ws s2 hq2 => ?_
  obtain ⟨zs, H2, I2, rz, r2, m2, es2, hr2, hes2, q2⟩ := hq2
  refine ⟨I2.kIn, ?_⟩
  rw [hks]
  split at q2
  · rename_i hl
    exact run_fm (ds := []) A G B I2 (.nil) rz hr2 rfl hes2 hl.2 q2
  · exact q2.elim
end
end Mn
end

section
/-! Mini, part F, more: enumerate of a tuple. -/
namespace Mn
open PySem PySem.Spec PyProof.Rows L2
set_option maxHeartbeats 1000000 in
theorem meets_enumerate_new1 {v : Value} {o : Obj} {H : Heap → Prop} (B : Begins v o H) :
    Meets (Builtin.«enumerate.__new__» ⟨[.type "enumerate", v], []⟩) (fun _ R s => H s.heap ∧
      R (.ok (.ret (.ref (s.heap.push o).objs.size))) { s with heap := (s.heap.push o).push { cls := .type "enumerate", data := .fields #[.none, .bool false, .ref s.heap.objs.size, rawInt 0, .none, .none] } }) :=
  .of_wp fun prog w A R s h => by
    obtain ⟨hp, g, d, tk, os⟩ := s
    obtain ⟨h1, h⟩ := h
    have hsub := sub_enumerate
    have q1 : ∀ {A' : Around} {E : Value → Shared → Prop} {Q : Value → Shared → Prop}, Q (.ref hp.objs.size) ⟨hp.push o, g, d, tk, os⟩ → wpAny (model prog w) A' (pyIter v) Q E ⟨hp, g, d, tk, os⟩ :=
      fun q => B.iter prog w _ _ ⟨hp, g, d, tk, os⟩ _ h1 q
    wp_walk using q1
    refine wpAny_stack_any fun st => wpAny_pure ?_
    split
    · rename_i c _ _ _ _ _
      cases (c == Value.type "enumerate")
      · wp_walk using q1
        exact ⟨_, rfl, h⟩
      · wp_walk using q1
        exact ⟨_, rfl, h⟩
    · wp_walk using q1
      exact ⟨_, rfl, h⟩
theorem enum_begins1 {prog : Program} {w : World} {A : Around} {E : Value → Shared → Prop} {s : Shared} {v : Value} {o : Obj} {H : Heap → Prop} {Q : Value → Shared → Prop} (B : Begins v o H) (h1 : H s.heap)
    (h : ∀ h', IsEnum h' (s.heap.objs.size + 1) s.heap.objs.size 0 .none → h'.get? s.heap.objs.size = some o → h'.objs.size = s.heap.objs.size + 2 →
      (∀ b o, s.heap.get? b = some o → h'.get? b = some o) → Q (.ref (s.heap.objs.size + 1)) { s with heap := h' }) :
    wpAny (model prog w) A (call (.type "enumerate") [v]) Q E s := by
  refine callType_new F.called_enumerate (by decide) (F.typeCall_enumerate_1 _) (F.newCall_enumerate_1 _) (fun obj => F.args_object_init_2 obj _) F.entry_enumerate_new
    (meets_enumerate_new1 B) ⟨h1, ?_⟩
  have hz : (s.heap.push o).objs.size = s.heap.objs.size + 1 := Heap.size_push ..
  show _ ∧ _
  rw [hz]
  have he : IsEnum ((s.heap.push o).push { cls := .type "enumerate", data := .fields #[.none, .bool false, .ref s.heap.objs.size, rawInt 0, .none, .none] }) (s.heap.objs.size + 1) s.heap.objs.size 0 .none := by
    have := Heap.get?_push_size (s.heap.push o) (o := { cls := .type "enumerate", data := .fields #[.none, .bool false, .ref s.heap.objs.size, rawInt 0, .none, .none] }) rfl
    rw [hz] at this
    exact this
  refine ⟨⟨_, he, rfl⟩, h _ he (Heap.get?_push_of_some _ (Heap.get?_push_size _ B.free)) (by rw [Heap.size_push, hz]) fun b o x => Heap.get?_push_of_some _ (Heap.get?_push_of_some _ x)⟩
/-- the tuple at a, each item in a new pair -/
def Itet (K : PySem.W.Frag) (a : Addr) : It :=
  ⟨fun i H => ∃ (xs : List V) (x : V), SqT K H a xs ∧ xs[i]? = some x, fun i H v H' => ∃ T x, v = .ref T ∧ H T = none ∧ H' = upd H T (.tup [.int (i : Nat), x]) ∧ ∀ xs, SqT K H a xs → xs[i]? = some x, fun i H => ∃ xs : List V, SqT K H a xs ∧ xs.length ≤ i⟩
theorem tuple_not_iter {h : Heap} {a it : Addr} {its : Array Value} {i : Nat} (p : h.IsTuple a its) (q : h.IsTupleIter it a i) : a ≠ it := by
  rintro rfl
  obtain ⟨o, e, c, _⟩ := p
  obtain ⟨o2, e2, c2, _⟩ := q
  rw [e] at e2
  cases e2
  rw [c] at c2
  exact absurd (Value.type.inj c2) (by decide)
theorem tuple_not_enum {h : Heap} {a e it : Addr} {its : Array Value} {i : Int} {old : Value} (p : h.IsTuple a its) (q : IsEnum h e it i old) : a ≠ e := by
  rintro rfl
  obtain ⟨o, e, c, _⟩ := p
  have q : h.get? a = some _ := q
  rw [e] at q
  rw [Option.some.inj q] at c
  exact absurd (Value.type.inj c) (by decide)
theorem enum_endT {prog : Program} {w : World} {A : Around} {E : Value → Shared → Prop} {s : Shared} {e it l : Addr} {i : Nat} {items : Array Value} {old : Value} {Q : Option Value → Shared → Prop} (hh : A.handled = none)
    (he : IsEnum s.heap e it i old) (hit : s.heap.IsTupleIter it l i) (hl : s.heap.IsTuple l items) (hx : items[i]? = none)
    (hQ : ∀ h', Heap.ExtBut it s.heap h' → Q none { s with heap := h' }) : wpAny (model prog w) A (pyNext (.ref e)) Q E s := by
  have hT : s.TypeIs (.ref e) "enumerate" := ⟨_, he, rfl⟩
  unfold pyNext
  refine wpAny_bind (wpAny_attempt (wpAny_callSpecial?_slot (name := Str.ofString "__next__") hT F.slot_enumerate_next
    (wpAny_call_entry F.slot_enumerate_next hT F.entry_enumerate_next ?_ (F.args_enumerate_next_1 _))))
  show wpAny _ _ (field (.ref e) 2 >>= _) _ _ _
  refine wpAny_bind (wpAny_field he rfl (x := .ref it) rfl ?_)
  refine wpAny_bind (wpAny_nextOf_tuple_end hh hit hl hx fun h' x he' hx' => ?_)
  obtain ⟨o, ho, hc⟩ := hx'
  refine wpAny_bind (wpAny_isInstance (T := "StopIteration") (b := true) ⟨o, ho, hc⟩ isSubtype_stop ?_)
  exact wpAny_pure (hQ _ he')
theorem turn_enumT {P : Program} {w : World} {K : PySem.W.Frag} {elts : List Expr} {kk : Nat} {tpos : Pos} (a e it : Addr) :
    Turn P w K (.Tuple elts kk tpos) (Itet K a) [e, it] e (fun i h => (∃ old, IsEnum h e it ((i : Nat) : Int) old) ∧ h.IsTupleIter it a i ∧ e ≠ it) where
  mem := by simp
  obj := fun i h st b hb => by
    obtain ⟨⟨old, he⟩, ⟨o, ho, hc, hd⟩, _⟩ := st
    have e' : b = e ∨ b = it := by simpa using hb
    rcases e' with z | z
    · rw [z]
      exact ⟨_, he, fun v q => nomatch q⟩
    · rw [z]
      exact ⟨o, ho, fun v q => by rw [hd] at q; cases q⟩
  keep := fun i h h' st k => let ⟨⟨old, he⟩, hi, hne⟩ := st; ⟨⟨old, k e (by simp) _ he⟩, hi.at fun o q => k it (by simp) o q, hne⟩
  item := by
    intro X hP hw hK hc i pins s σ H E I hf st hg
    subst hP hw hK
    obtain ⟨⟨old, he⟩, hit, hne⟩ := st
    obtain ⟨xs, x, hq, hx⟩ := hg
    obtain ⟨its, rv, p, hz⟩ := I.tuple hq
    have p : s.heap.IsTuple a its.toArray := p
    obtain ⟨u, hu, ru⟩ := rv.get hx
    have hel : e < s.heap.objs.size := Heap.lt_size he
    have hil : it < s.heap.objs.size := by obtain ⟨_, q, _⟩ := hit; exact Heap.lt_size q
    have ne1 : a ≠ it := tuple_not_iter p hit
    have ne2 : a ≠ e := tuple_not_enum p he
    have hd : X.A.in1.handled = none := I.ok.hd hc
    have D := Draws.tuple (prog := X.prog) (w := X.w) (A := X.A.in1) hd it a ne1 its.toArray
    have hlt : i < its.toArray.size := by
      have := (List.getElem?_eq_some_iff.mp hu).1
      simpa using this
    refine wpAny_pyNext_enum_itemD D he ⟨hit, p⟩ hlt hne (by simp; exact ⟨hne, Ne.symm ne2⟩) fun x' h' tk hx' ho st' hT hsz hk => ?_
    have ex : x' = u := by
      have hx' : its.toArray[i]? = some x' := hx'
      have hu' : its.toArray[i]? = some u := by simpa using hu
      rw [hu'] at hx'
      exact (Option.some.inj hx').symm
    subst ex
    refine ⟨_, rfl, wpAny_letOwnedTupleGo_enum (s := { s with heap := h', toks := tk + 1 }) ho fun h'' he' sb => ?_⟩
    have hT2 : h''.get? s.heap.objs.size = some { cls := .type "tuple", data := .seq #[.int i tk, x'] } := (sb.2 _ (Nat.ne_of_gt hel)).trans hT
    have new : ObjOk X.prog X.w (upd H s.heap.objs.size (.tup [.int (i : Nat), x])) h'' s.heap.objs.size (.tup [.int (i : Nat), x]) :=
      ⟨by show 2 ≤ sizeLine; decide, [.int i tk, x'], .cons ⟨_, rfl⟩ (.cons ru .nil), ⟨_, hT2, rfl, _, rfl⟩⟩
    have I1 : Inv X pins σ (upd H s.heap.objs.size (.tup [.int (i : Nat), x])) { s with heap := h'', toks := tk + 1 } :=
      I.turnedNew (ch := [e, it]) (fun b ob hb q => (sb.2 b (fun z => hb (by simp [z]))).trans (hk b ob (fun z => hb (by simp [z])) (fun z => hb (by simp [z])) q)) hf (Nat.le_refl _) new
    refine ⟨.ref s.heap.objs.size, _, I1, rfl, ⟨_, x, rfl, I.hok.fresh (Nat.le_refl _), rfl, fun ys hy => by rw [I.tuple_inj hy hq]; exact hx⟩, ⟨⟨x', ?_⟩, st'.1.at fun o q => (sb.2 it (Ne.symm hne)).trans q, hne⟩, fun b hb => ?_⟩
    · have e1 : ((i + 1 : Nat) : Int) = (i : Int) + 1 := by omega
      rw [e1]
      exact he'
    · have hb' : b < s.heap.objs.size := by
        have e' : b = e ∨ b = it := by simpa using hb
        rcases e' with z | z
        · rw [z]
          exact hel
        · rw [z]
          exact hil
      rw [upd_ne (Nat.ne_of_lt hb')]
      exact (hf b hb).1
  done := by
    intro X hP hw hK hc i pins s σ H E I hf st hg
    subst hP hw hK
    obtain ⟨⟨old, he⟩, hit, hne⟩ := st
    obtain ⟨xs, hq, hx⟩ := hg
    obtain ⟨its, rv, p, hz⟩ := I.tuple hq
    have p : s.heap.IsTuple a its.toArray := p
    obtain ⟨f0, f1, f2, f3, f4, f5⟩ := hf it (by simp)
    have hl := rv.length
    exact enum_endT (I.ok.hd hc) he hit p (by simp; omega) fun h' eb => ⟨rfl, I.turned (t' := s.toks) (fun b o hb q => eb b o hb q) f0 f1 f3 f4 f5⟩
  self := fun A i s Q E st h => let ⟨⟨_, he⟩, _⟩ := st; wpAny_pyIter_enum he h
/-- enumerate of a list or of a tuple -/
def iEnumA (K : PySem.W.Frag) (ta : TA) : TI := fun σ H R => ta σ H fun vs H1 => (∃ a xs, vs = [.ref a] ∧ SqL K H1 a xs ∧ R (Ite K a) H1) ∨ ∃ a xs, vs = [.ref a] ∧ SqT K H1 a xs ∧ R (Itet K a) H1
theorem pi_enumA {X : Cx} {e : Expr} {ta : TA} {p pos tpos : Pos} {elts : List Expr} {kk : Nat} (hg : Gl X "enumerate") (hm : X.mg "enumerate" = none) (ha : PA X [e] ta) (hs : starEach [e] X.env = [(false, eval e X.env)] := by rfl) :
    PI X (.Tuple elts kk tpos) (.Call (.Name "enumerate" p) [e] [] pos) (iEnumA X.K ta) := by
  refine ⟨fun pins s σ H R I h => ?_⟩
  refine Call_ (ld_blt I hg hm boot_enumerate (PyProof.Rows.callWith_type1 (thn (ha.run pos pins s σ H _ I h) fun us s1 ⟨vs, H1, I1, r1, q1⟩ => ?_) hs rfl))
  rcases q1 with ⟨a, xs, ex, hq, q⟩ | ⟨a, xs, ex, hq, q⟩
  · subst ex
    cases r1 with
    | cons r rr =>
      cases rr
      cases r
      obtain ⟨its, rv, p', hz⟩ := I1.list hq
      refine call_enumerate_list p'.isList fun h' he hit hsz hk => wpAny_pyIter_enum he ?_
      have I2 : Inv X pins σ H1 { s1 with heap := h' } := I1.kept (t' := s1.toks) hk
      refine ⟨s1.heap.objs.size + 1, [s1.heap.objs.size + 1, s1.heap.objs.size], _, _, H1, rfl, I2, turn_enum a (s1.heap.objs.size + 1) s1.heap.objs.size, ⟨⟨.none, he⟩, hit, Nat.succ_ne_self _⟩, fun b hb => ?_, q⟩
      have e' : b = s1.heap.objs.size + 1 ∨ b = s1.heap.objs.size := by simpa using hb
      have hle : s1.heap.objs.size ≤ b := by
        rcases e' with z | z
        · rw [z]
          exact Nat.le_add_right _ _
        · rw [z]
          exact Nat.le_refl _
      exact I1.fpOk hle (I1.hok.fresh hle)
  · subst ex
    cases r1 with
    | cons r rr =>
      cases rr
      cases r
      obtain ⟨its, rv, p', hz⟩ := I1.tuple hq
      have p' : s1.heap.IsTuple a its.toArray := p'
      refine enum_begins1 (begins_tuple a its.toArray) p' fun h' he hit hsz hk => wpAny_pyIter_enum he ?_
      have I2 : Inv X pins σ H1 { s1 with heap := h' } := I1.kept (t' := s1.toks) hk
      refine ⟨s1.heap.objs.size + 1, [s1.heap.objs.size + 1, s1.heap.objs.size], _, _, H1, rfl, I2, turn_enumT a (s1.heap.objs.size + 1) s1.heap.objs.size, ⟨⟨.none, he⟩, ⟨_, hit, rfl, rfl⟩, Nat.succ_ne_self _⟩, fun b hb => ?_, q⟩
      have e' : b = s1.heap.objs.size + 1 ∨ b = s1.heap.objs.size := by simpa using hb
      have hle : s1.heap.objs.size ≤ b := by
        rcases e' with z | z
        · rw [z]
          exact Nat.le_add_right _ _
        · rw [z]
          exact Nat.le_refl _
      exact I1.fpOk hle (I1.hok.fresh hle)
end Mn
end

section
/-! Mini, part G: what loops walk over; comprehensions. -/
namespace Mn
open PySem PySem.Spec PyProof.Rows L2

def fixS (xs : List D) : Src := fun i _ => some xs[i]?
def lstS (n : Nat) : Src := fun i m => match m[n]? with
  | some (.lst xs) => some xs[i]?
  | _ => none
def itD (d : D) (m : MH) : Out Src := match d with
  | .tup xs => .ok (fixS xs) m
  | .frl xs => .ok (fixS xs) m
  | .str x => .ok (fixS (x.map fun c => .str [c])) m
  | .ref n => match m[n]? with
    | some (.lst _) => .ok (lstS n) m
    | _ => .no
  | _ => .no
def gIter (g : Fr → MH → Out D) : Fr → MH → Out Src := fun f m => (g f m).bind itD
section
variable {X : Cx} {W : WX} {k : Kx} {n : Nat} {e : Expr} {es : List Expr} {tg : Expr} {g : Fr → MH → Out D} {t : Fr → MH → Out (List D)} {pos : Pos}
theorem feed_tup {r0 : List Addr} {H0 : Hp} {K : PySem.W.Frag} {a : Addr} {xs : List D} {ys : List V} (hK : k.K = K) (h : TupAt K H0 a ys) (hv : RVs k r0 H0 xs ys) : Feed k r0 H0 (fixS xs) (Itt K a) := by
  subst hK
  intro r H m p kp hr i
  have hv' := RVs.more p kp xs ys hv
  have ht := (h.keep kp).sq
  refine ⟨fun e => ?_, fun d e => ?_⟩
  · refine ⟨ys, ht, ?_⟩
    have := List.getElem?_eq_none_iff.mp (Option.some.inj e)
    rw [← hv'.length]
    exact this
  · obtain ⟨v, e2, rv⟩ := hv'.get (Option.some.inj e)
    refine ⟨⟨ys, v, ht, e2⟩, ?_⟩
    rintro x H' ⟨rfl, hx⟩
    have := hx ys ht
    rw [e2] at this
    cases this
    exact ⟨.refl _, hr, rv⟩
theorem feed_frl {r0 : List Addr} {H0 : Hp} {K : PySem.W.Frag} {a : Addr} {xs : List D} {ys : List V} (hK : k.K = K) (h : FrlAt K H0 a ys) (hv : RVs k r0 H0 xs ys) : Feed k r0 H0 (fixS xs) (Itl K a) := by
  subst hK
  intro r H m p kp hr i
  have hv' := RVs.more p kp xs ys hv
  have ht := (h.keep kp).sq
  refine ⟨fun e => ?_, fun d e => ?_⟩
  · refine ⟨ys, ht, ?_⟩
    have := List.getElem?_eq_none_iff.mp (Option.some.inj e)
    rw [← hv'.length]
    exact this
  · obtain ⟨v, e2, rv⟩ := hv'.get (Option.some.inj e)
    refine ⟨⟨ys, v, ht, e2⟩, ?_⟩
    rintro x H' ⟨rfl, hx⟩
    have := hx ys ht
    rw [e2] at this
    cases this
    exact ⟨.refl _, hr, rv⟩
theorem feed_lst {r0 : List Addr} {H0 : Hp} {K : PySem.W.Frag} {a : Addr} {j : Nat} (h : r0[j]? = some a) : Feed k r0 H0 (lstS j) (Itl K a) := by
  intro r H m p kp hr i
  have ha := pre_get p h
  unfold lstS
  refine ⟨fun e => ?_, fun d e => ?_⟩
  · split at e
    · rename_i xs hx
      obtain ⟨ys, hy, hv⟩ := hr.ob j _ a hx ha
      refine ⟨ys, .of hy, ?_⟩
      rw [← hv.length]
      exact List.getElem?_eq_none_iff.mp (Option.some.inj e)
    · cases e
  · split at e
    · rename_i xs hx
      obtain ⟨ys, hy, hv⟩ := hr.ob j _ a hx ha
      obtain ⟨v, e2, rv⟩ := hv.get (Option.some.inj e)
      refine ⟨⟨ys, v, .of hy, e2⟩, ?_⟩
      rintro x H' ⟨rfl, hx2⟩
      have := hx2 ys (.of hy)
      rw [e2] at this
      cases this
      exact ⟨.refl _, hr, rv⟩
    · cases e
theorem feed_str {r0 : List Addr} {H0 : Hp} {x : Tx} : Feed k r0 H0 (fixS (x.map fun c => .str [c])) (Its (tx x)) := by
  intro r H m p kp hr i
  have gt : (tx x).cps[i]? = x[i]? := by
    show x.toArray[i]? = x[i]?
    rw [List.getElem?_toArray]
  refine ⟨fun e => ?_, fun d e => ?_⟩
  · have := List.getElem?_eq_none_iff.mp (Option.some.inj e)
    rw [List.length_map] at this
    exact this
  · have e : (x.map fun c => D.str [c])[i]? = some d := Option.some.inj e
    rw [List.getElem?_map] at e
    cases hc : x[i]? with
    | none =>
      rw [hc] at e
      cases e
    | some c =>
      rw [hc] at e
      cases e
      refine ⟨(List.getElem?_eq_some_iff.mp hc).1, ?_⟩
      rintro v H' ⟨rfl, c', hc', rfl⟩
      rw [gt, hc] at hc'
      cases hc'
      exact ⟨.refl _, hr, rfl⟩
/-- a name, a call .. : whatever it is -/
theorem si_any (hK : k.K = X.K) (he : SE X W k e g) : SI X W k tg e (gIter g) := by
  refine ⟨fun pins s σ H Rr I hq => ?_⟩
  obtain ⟨r, f, m, hf, hr, q⟩ := hq
  unfold gIter at q
  cases ho : g f m with
  | no =>
    rw [ho] at q
    exact q.elim
  | ex x m1 =>
    rw [ho] at q
    refine (pi_list he).run pins s σ H Rr I (tM_of hf hr ?_)
    rw [ho]
    exact q
  | ok d m1 =>
    rw [ho] at q
    cases d with
    | tup xs =>
      refine (pi_tup he).run pins s σ H Rr I (tM_of hf hr ?_)
      rw [ho]
      rintro r1 v H1 p kp hr1 ⟨a, ys, rfl, ht, hv⟩
      exact ⟨a, rfl, ⟨ys, hK ▸ ht.sq⟩, q r1 _ H1 p kp hr1 (feed_tup hK (hK ▸ ht) hv)⟩
    | frl xs =>
      refine (pi_list he).run pins s σ H Rr I (tM_of hf hr ?_)
      rw [ho]
      rintro r1 v H1 p kp hr1 ⟨a, ys, rfl, ht, hv⟩
      exact ⟨a, rfl, ⟨ys, hK ▸ ht.sq⟩, q r1 _ H1 p kp hr1 (feed_frl hK (hK ▸ ht) hv)⟩
    | str x =>
      refine (pi_str he).run pins s σ H Rr I (tM_of hf hr ?_)
      rw [ho]
      rintro r1 v H1 p kp hr1 rfl
      exact ⟨tx x, rfl, q r1 _ H1 p kp hr1 feed_str⟩
    | ref j =>
      have q : Fi k (Feed k) r H (itD (.ref j) m1) Rr _ := q
      unfold itD at q
      cases hj : m1[j]? with
      | none =>
        simp only [hj] at q
        exact q.elim
      | some o =>
        cases o with
        | lst xs =>
          simp only [hj] at q
          refine (pi_list he).run pins s σ H Rr I (tM_of hf hr ?_)
          rw [ho]
          rintro r1 v H1 p kp hr1 ⟨a, rfl, ha⟩
          obtain ⟨ys, hy, _⟩ := hr1.ob j _ a hj ha
          exact ⟨a, rfl, ⟨ys, .of hy⟩, q r1 _ H1 p kp hr1 (feed_lst ha)⟩
        | dct _ =>
          simp only [hj] at q
          exact q.elim
        | ins _ _ =>
          simp only [hj] at q
          exact q.elim
    | non => exact q.elim
    | bl _ => exact q.elim
    | int _ => exact q.elim
    | cst _ => exact q.elim
/-- range -/
def rngS (lo c : Int) (n : Nat) : Src := fun i _ => if i < n then some (some (.int (lo + (i : Nat) * c))) else some none
def i62 (i : Int) : Prop := -(2 ^ 62) ≤ i ∧ i < 2 ^ 62
instance (i : Int) : Decidable (i62 i) := inferInstanceAs (Decidable (_ ∧ _))
def gRng1 (t : Fr → MH → Out (List D)) : Fr → MH → Out Src := fun f m => (t f m).bind fun xs m1 => match xs with
  | [.int j] => if i62 j then .ok (rngS 0 1 j.toNat) m1 else .no
  | _ => .no
def gRng2 (t : Fr → MH → Out (List D)) : Fr → MH → Out Src := fun f m => (t f m).bind fun xs m1 => match xs with
  | [.int i, .int j] => if i62 i ∧ i62 j then .ok (rngS i 1 (j - i).toNat) m1 else .no
  | _ => .no
theorem feed_rng {r0 : List Addr} {H0 : Hp} {lo : Int} {n : Nat} : Feed k r0 H0 (rngS lo 1 n) (Itr lo n) := by
  intro r H m p kp hr i
  unfold rngS
  refine ⟨fun e => ?_, fun d e => ?_⟩
  · split at e
    · cases e
    · exact Nat.le_of_not_lt (by assumption)
  · split at e
    · rename_i h
      cases e
      refine ⟨h, ?_⟩
      rintro x H' ⟨rfl, rfl⟩
      exact ⟨.refl _, hr, by rw [Int.mul_one]; exact rfl⟩
    · cases e
theorem ints1 {r : List Addr} {H : Hp} {i : Int} {vs : List V} (h : RVs k r H [.int i] vs) : vs = [.int i] := by
  obtain ⟨y, t, rfl, h1, h2⟩ := h
  have h1 : y = .int i := h1
  have h2 : t = [] := h2
  rw [h1, h2]
theorem ints2 {r : List Addr} {H : Hp} {i j : Int} {vs : List V} (h : RVs k r H [.int i, .int j] vs) : vs = [.int i, .int j] := by
  obtain ⟨y, t, rfl, h1, h2⟩ := h
  have h1 : y = .int i := h1
  rw [h1, ints1 h2]
/-- h: pi_range1 (the name's) (its not being ours) (the arguments) -/
theorem si_rng1 {e : Expr} (h : PI X tg e (iRng1 (tM k (RVs k) W t))) : SI X W k tg e (gRng1 t) := by
  refine ⟨fun pins s σ H Rr I hq => h.run pins s σ H Rr I ?_⟩
  refine tM_bind (R2 := Feed k) (h := fun xs _ m1 => match xs with | [.int j] => if i62 j then .ok (rngS 0 1 j.toNat) m1 else .no | _ => .no) hq fun xs r f m vs H1 hf hr hv q => ?_
  split at q
  · rename_i j
    split at q
    · rename_i hj
      exact ⟨j, ints1 hv, hj.1, hj.2, q r _ H1 (List.prefix_refl r) (.refl _) hr feed_rng⟩
    · exact q.elim
  · exact q.elim
theorem si_rng2 {e : Expr} (h : PI X tg e (iRng2 (tM k (RVs k) W t))) : SI X W k tg e (gRng2 t) := by
  refine ⟨fun pins s σ H Rr I hq => h.run pins s σ H Rr I ?_⟩
  refine tM_bind (R2 := Feed k) (h := fun xs _ m1 => match xs with | [.int i, .int j] => if i62 i ∧ i62 j then .ok (rngS i 1 (j - i).toNat) m1 else .no | _ => .no) hq fun xs r f m vs H1 hf hr hv q => ?_
  split at q
  · rename_i i j
    split at q
    · rename_i hj
      exact ⟨i, j, ints2 hv, ⟨hj.1.1, hj.1.2, hj.2.1, hj.2.2⟩, q r _ H1 (List.prefix_refl r) (.refl _) hr feed_rng⟩
    · exact q.elim
  · exact q.elim
/-- enumerate of a list -/
def enS (s : Src) : Src := fun i m => (s i m).map fun o => o.map fun d => .tup [.int (i : Nat), d]
def gEnum (t : Fr → MH → Out (List D)) : Fr → MH → Out Src := fun f m => (t f m).bind fun xs m1 => match xs with
  | [.ref n] => match m1[n]? with
    | some (.lst _) => .ok (enS (lstS n)) m1
    | _ => .no
  | [.frl xs] => .ok (enS (fixS xs)) m1
  | [.tup xs] => .ok (enS (fixS xs)) m1
  | _ => .no
theorem feed_enum {r0 : List Addr} {H0 : Hp} {K : PySem.W.Frag} {a : Addr} {src : Src} (h : Feed k r0 H0 src (Itl K a)) : Feed k r0 H0 (enS src) (Ite K a) := by
  intro r H m p kp hr i
  obtain ⟨h1, h2⟩ := h r H m p kp hr i
  unfold enS
  cases e : src i m with
  | none => exact ⟨fun z => (nomatch z), fun d z => (nomatch z)⟩
  | some o =>
    cases o with
    | none => exact ⟨fun _ => h1 e, fun d z => nomatch z⟩
    | some d0 =>
      refine ⟨fun z => (nomatch z), fun d z => ?_⟩
      cases z
      obtain ⟨go, yl⟩ := h2 d0 e
      refine ⟨go, ?_⟩
      rintro x H' ⟨T, x0, rfl, nT, rfl, hx⟩
      obtain ⟨_, _, hv⟩ := yl x0 H ⟨rfl, hx⟩
      exact ⟨.new nT, hr.skip nT, T, [.int (i : Nat), x0], rfl, .inl upd_same, _, _, rfl, rfl, _, _, rfl, RV.more (List.prefix_refl r) (.new nT) d0 x0 hv, rfl⟩
theorem feed_enumT {r0 : List Addr} {H0 : Hp} {K : PySem.W.Frag} {a : Addr} {src : Src} (h : Feed k r0 H0 src (Itt K a)) : Feed k r0 H0 (enS src) (Itet K a) := by
  intro r H m p kp hr i
  obtain ⟨h1, h2⟩ := h r H m p kp hr i
  unfold enS
  cases e : src i m with
  | none => exact ⟨fun z => (nomatch z), fun d z => (nomatch z)⟩
  | some o =>
    cases o with
    | none => exact ⟨fun _ => h1 e, fun d z => nomatch z⟩
    | some d0 =>
      refine ⟨fun z => (nomatch z), fun d z => ?_⟩
      cases z
      obtain ⟨go, yl⟩ := h2 d0 e
      refine ⟨go, ?_⟩
      rintro x H' ⟨T, x0, rfl, nT, rfl, hx⟩
      obtain ⟨_, _, hv⟩ := yl x0 H ⟨rfl, hx⟩
      exact ⟨.new nT, hr.skip nT, T, [.int (i : Nat), x0], rfl, .inl upd_same, _, _, rfl, rfl, _, _, rfl, RV.more (List.prefix_refl r) (.new nT) d0 x0 hv, rfl⟩
theorem rv1 {r : List Addr} {H : Hp} {d : D} {vs : List V} (h : RVs k r H [d] vs) : ∃ v, vs = [v] ∧ RV k r H d v := by
  obtain ⟨y, t, rfl, h1, h2⟩ := h
  have h2 : t = [] := h2
  exact ⟨y, by rw [h2], h1⟩
theorem si_enum {e : Expr} (hK : k.K = X.K) (h : PI X tg e (iEnumA X.K (tM k (RVs k) W t))) : SI X W k tg e (gEnum t) := by
  refine ⟨fun pins s σ H Rr I hq => h.run pins s σ H Rr I ?_⟩
  refine tM_bind (R2 := Feed k) (h := fun xs _ m1 => match xs with | [.ref n] => (match m1[n]? with | some (.lst _) => .ok (enS (lstS n)) m1 | _ => .no) | [.frl xs] => .ok (enS (fixS xs)) m1 | [.tup xs] => .ok (enS (fixS xs)) m1 | _ => .no) hq fun xs r f m vs H1 hf hr hv q => ?_
  split at q
  · rename_i j
    obtain ⟨v, rfl, a, rfl, ha⟩ := rv1 hv
    split at q
    · rename_i xs hx
      obtain ⟨ys, hy, _⟩ := hr.ob j _ a hx ha
      exact .inl ⟨a, ys, rfl, .of hy, q r _ H1 (List.prefix_refl r) (.refl _) hr (feed_enum (feed_lst ha))⟩
    · exact q.elim
  · obtain ⟨v, rfl, a, ys, rfl, ht, hvs⟩ := rv1 hv
    exact .inl ⟨a, ys, rfl, hK ▸ ht.sq, q r _ H1 (List.prefix_refl r) (.refl _) hr (feed_enum (feed_frl hK (hK ▸ ht) hvs))⟩
  · obtain ⟨v, rfl, a, ys, rfl, ht, hvs⟩ := rv1 hv
    exact .inr ⟨a, ys, rfl, hK ▸ ht.sq, q r _ H1 (List.prefix_refl r) (.refl _) hr (feed_enumT (feed_tup hK (hK ▸ ht) hvs))⟩
  · exact q.elim
end

/-! ### comprehensions -/
def STs (X : Cx) (W : WX) (k : Kx) (es : List Expr) (g : Fr → MH → Out Bool) : Prop := PTs X es (tM k RB W g)
def gYes : Fr → MH → Out Bool := fun _ m => .ok true m
def wipeD (f : Fr) : List Nat → Fr
  | [] => f
  | v :: vs => (wipeD f vs).set v none
def loopC (src : Src) (T : Tg) (tt : Fr → MH → Out Bool) (te : Fr → MH → Out D) (fw : Fr) (n : Nat) : Nat → Nat → MH → Out D
  | 0, _, _ => .no
  | j + 1, i, m => match src i m with
    | none => .no
    | some none => .ok (.ref n) m
    | some (some d) => match T.set d fw with
      | none => .no
      | some f => match tt f m with
        | .ok false m2 => loopC src T tt te fw n j (i + 1) m2
        | .ok true m2 => match te f m2 with
          | .ok y m3 => match m3[n]? with
            | some (.lst acc) => if acc.length < 100000 then loopC src T tt te fw n j (i + 1) (m3.set n (.lst (acc ++ [y]))) else .no
            | _ => .no
          | _ => .no
        | _ => .no
/-- [te for T in src if tt], the names at vs being the comprehension's own -/
def gLc (g : Fr → MH → Out Src) (T : Tg) (tt : Fr → MH → Out Bool) (te : Fr → MH → Out D) (vs : List Nat) : Fr → MH → Out D :=
  fun f m => (g f m).bind fun src m1 => loopC src T tt te (wipeD f vs) m1.length wfuel 0 (m1 ++ [.lst []])
abbrev W0 : WX := fun _ _ _ _ => False
def Tg.own (vs : List Nat) : Tg → Bool
  | .nm i => vs.contains i
  | .tp is => is.all vs.contains
  | .te i js => vs.contains i && js.all vs.contains
theorem wipe_set {σ : L2.St} {i : Nat} {v : Option V} : ∀ {vs : List Nat}, i ∈ vs → wipe (σ.set i v) vs = wipe σ vs
  | [], h => nomatch h
  | j :: vs, h => by
    show (wipe (σ.set i v) vs).set j none = (wipe σ vs).set j none
    by_cases hj : i ∈ vs
    · rw [wipe_set hj]
    · have e : i = j := (List.mem_cons.mp h).resolve_right hj
      subst e
      have go : ∀ (l : List Nat) (τ : L2.St), i ∉ l → (wipe (τ.set i v) l).set i none = (wipe τ l).set i none := by
        intro l
        induction l with
        | nil =>
          intro τ _
          show (τ.set i v).set i none = τ.set i none
          rw [List.set_set]
        | cons a l ih =>
          intro τ ha
          have h1 : i ≠ a := fun z => ha (z ▸ List.mem_cons_self)
          have h2 : i ∉ l := fun z => ha (List.mem_cons_of_mem _ z)
          show ((wipe (τ.set i v) l).set a none).set i none = ((wipe τ l).set a none).set i none
          rw [List.set_comm _ _ h1.symm, List.set_comm _ _ h1.symm, ih τ h2]
      exact go vs σ hj
theorem wipe_sets : ∀ {is vs : List Nat} {ds : List V} {σ : L2.St}, (∀ i ∈ is, i ∈ vs) → wipe (setsV σ is ds) vs = wipe σ vs
  | [], vs, ds, σ, _ => by cases ds <;> rfl
  | i :: is, vs, [], σ, _ => rfl
  | i :: is, vs, d :: ds, σ, h => by
    show wipe (setsV (σ.set i (some d)) is ds) vs = wipe σ vs
    rw [wipe_sets fun j hj => h j (List.mem_cons_of_mem _ hj), wipe_set (h i List.mem_cons_self)]
section
variable {X : Cx} {W : WX} {k : Kx} {n : Nat} {pos : Pos} {T : Tg}
theorem sts_nil : STs X W k [] gYes := ⟨fun pins s σ H Q I ⟨r, f, m, hf, hr, q⟩ => pts_nil.run pins s σ H Q I (Fi.pure q hr rfl)⟩
theorem sts_one {c : Expr} {t : Fr → MH → Out Bool} (h : ST X W k c t) : STs X W k [c] t := pts_one h
theorem At.blk (A : At X W k n) (s : Shared) (H : Hp) (scope : Scope) (env : Env) (fp : List Addr) : At (X.blk s H scope env fp) W0 k n :=
  ⟨A.kk, takes0, A.gd, A.hr, A.calm, A.nd, PassesOwn.never⟩
theorem RF.wipes {r : List Addr} {H : Hp} {f : Fr} {σ : L2.St} (h : RF k r H f σ) : ∀ vs : List Nat, RF k r H (wipeD f vs) (L2.wipe σ vs)
  | [] => h
  | v :: vs => (h.wipes vs).wipe v
/-- the target of a comprehension: only its own names change -/
theorem tG_own {r : List Addr} {m : MH} {H : Hp} {σ : L2.St} {d : D} {v : V} {f f' : Fr} {vs : List Nat} {Q : L2.St → Hp → Prop} (hK : k.K = X.K) (hf : RF k r H f (wipe σ vs)) (hv : RV k r H d v) (e : T.set d f = some f') (ho : T.own vs = true)
    (q : ∀ σ', RF k r H f' σ' → wipe σ' vs = wipe (wipe σ vs) vs → Q σ' H) : tG X.K T v (wipe σ vs) H Q := by
  cases T with
  | nm i =>
    cases e
    exact q _ (hf.set i hv) (wipe_set (by simpa [Tg.own] using ho))
  | tp is =>
    cases d with
    | tup ds =>
      have e : (if ds.length = is.length then some (setsD f is ds) else none) = some f' := e
      split at e
      · rename_i hl
        cases e
        obtain ⟨a, ys, rfl, ht, hvs⟩ := hv
        exact ⟨a, ys, rfl, hK ▸ ht.sq, by rw [← hvs.length]; exact hl, q _ (hf.sets hvs) (wipe_sets (by simpa [Tg.own] using ho))⟩
      · cases e
    | _ => cases e
  | te i js =>
    match d, e with
    | .tup [x, .tup ds], e =>
      have e : (if ds.length = js.length then some (setsD (f.set i (some x)) js ds) else none) = some f' := e
      split at e
      · rename_i hl
        cases e
        obtain ⟨a, _, rfl, ht, y, _, rfl, hx, z, _, rfl, ⟨b, ys, rfl, ht2, hvs⟩, rfl⟩ := hv
        have ho2 : i ∈ vs ∧ ∀ j ∈ js, j ∈ vs := by simpa [Tg.own] using ho
        exact ⟨a, y, b, ys, rfl, hK ▸ ht.sq, hK ▸ ht2.sq, by rw [← hvs.length]; exact hl, q _ ((hf.set i hx).sets hvs) ((wipe_sets ho2.2).trans (wipe_set ho2.1))⟩
      · cases e
theorem wipe_get {σ : L2.St} : ∀ {vs : List Nat} {i : Nat}, i ∈ vs → i < σ.length → (wipe σ vs)[i]? = some none
  | j :: vs, i, h, hl => by
    show ((wipe σ vs).set j none)[i]? = some none
    by_cases e : j = i
    · subst e
      rw [List.getElem?_set_self (by rw [wipe_length]; exact hl)]
    · rw [List.getElem?_set_ne e]
      exact wipe_get ((List.mem_cons.mp h).resolve_left (Ne.symm e)) hl
theorem wipe_idem {σ : L2.St} : ∀ vs : List Nat, wipe (wipe σ vs) vs = wipe σ vs := by
  intro vs
  have go : ∀ (us : List Nat) (τ : L2.St), (∀ i ∈ us, i < τ.length → τ[i]? = some none) → wipe τ us = τ := by
    intro us
    induction us with
    | nil => exact fun _ _ => rfl
    | cons a us ih =>
      intro τ h
      show (wipe τ us).set a none = τ
      rw [ih τ fun i hi => h i (List.mem_cons_of_mem _ hi)]
      by_cases hl : a < τ.length
      · have e := h a List.mem_cons_self hl
        obtain ⟨_, e2⟩ := List.getElem?_eq_some_iff.mp e
        have := List.set_getElem_self (as := τ) hl
        rw [e2] at this
        exact this
      · exact List.set_eq_of_length_le (Nat.le_of_not_lt hl)
  exact go vs (wipe σ vs) fun i hi hl => wipe_get hi (by rw [wipe_length] at hl; exact hl)
theorem lc_reads {gi : Fr → MH → Out Src} {tt : Fr → MH → Out Bool} {te : Fr → MH → Out D} {vs : List Nat} {σ : L2.St} {H : Hp} {Q : VK} (hK : k.K = X.K) (ho : T.own vs = true) (h : tM k (RV k) W (gLc gi T tt te vs) σ H Q) :
    tLc (tM k (Feed k) W gi) (tG X.K T) (tM k RB W0 tt) (tM k (RV k) W0 te) vs σ H Q := by
  refine tM_bind (h := fun src f m1 => loopC src T tt te (wipeD f vs) m1.length wfuel 0 (m1 ++ [.lst []])) h fun src r0 f m J H0 hf hr hv q => ?_
  intro p hp
  have hr1 : HR k (r0 ++ [p]) (m ++ [.lst []]) (upd H0 p (.lst [])) := hr.new hp ⟨[], upd_same, rfl⟩
  have hf1 : RF k (r0 ++ [p]) (upd H0 p (.lst [])) (wipeD f vs) (wipe σ vs) := (hf.more (List.prefix_append r0 [p]) (.new hp)).wipes vs
  have hp1 : (r0 ++ [p])[m.length]? = some p := by
    rw [← hr.len, List.getElem?_append_right (Nat.le_refl _), Nat.sub_self]
    rfl
  have q1 : Fi k (RV k) (r0 ++ [p]) (upd H0 p (.lst [])) (loopC src T tt te (wipeD f vs) m.length wfuel 0 (m ++ [.lst []])) Q (fun c d H' => W c d σ H') := Fi.weak (List.prefix_append r0 [p]) (.new hp) q
  refine ⟨fun i j H => ∃ r m1, (r0 ++ [p]) <+: r ∧ Keep (upd H0 p (.lst [])) H ∧ HR k r m1 H ∧ Fi k (RV k) r H (loopC src T tt te (wipeD f vs) m.length j i m1) Q (fun c d H' => W c d σ H'), ⟨wfuel, r0 ++ [p], _, List.prefix_refl _, .refl _, hr1, q1⟩, ?_⟩
  rintro i j H ⟨r, m1, pr, kp, hr, q⟩
  cases j with
  | zero => exact q.elim
  | succ j =>
    unfold loopC at q
    have fd := hv r H m1 ((List.prefix_append r0 [p]).trans pr) ((Keep.new hp).trans kp) hr i
    have hpr := pre_get pr hp1
    cases e : src i m1 with
    | none =>
      simp only [e] at q
      exact q.elim
    | some o =>
      cases o with
      | none =>
        simp only [e] at q
        exact .inl ⟨fd.1 e, Fi.pure q hr ⟨p, rfl, hpr⟩⟩
      | some d =>
        simp only [e] at q
        obtain ⟨go, yl⟩ := fd.2 d e
        refine .inr ⟨go, fun H' => ∃ r m1, (r0 ++ [p]) <+: r ∧ Keep (upd H0 p (.lst [])) H' ∧ HR k r m1 H' ∧ Fi k (RV k) r H' (loopC src T tt te (wipeD f vs) m.length j (i + 1) m1) Q (fun c d H' => W c d σ H'), fun H' h' => ⟨j, Nat.lt_succ_self j, h'⟩, fun x H' y => ?_⟩
        obtain ⟨kp', hr', hv'⟩ := yl x H' y
        cases e2 : T.set d (wipeD f vs) with
        | none =>
          simp only [e2] at q
          exact q.elim
        | some f1 =>
          simp only [e2] at q
          refine tG_own (m := m) hK (hf1.more pr (kp.trans kp')) hv' e2 ho fun σ2 hf2 hw => ⟨by rw [hw, wipe_idem], r, f1, m1, hf2, hr', ?_⟩
          have q' := Fi.weak (List.prefix_refl r) kp' q
          cases e3 : tt f1 m1 with
          | no =>
            simp only [e3] at q'
            exact q'.elim
          | ex _ _ =>
            simp only [e3] at q'
            exact q'.elim
          | ok b m2 =>
            cases b with
            | false =>
              simp only [e3] at q'
              rintro r2 c H2 p2 kp2 hr2 rfl
              exact ⟨r2, m2, pr.trans p2, (kp.trans kp').trans kp2, hr2, Fi.weak p2 kp2 q'⟩
            | true =>
              simp only [e3] at q'
              rintro r2 c H2 p2 kp2 hr2 rfl
              refine ⟨r2, f1, m2, hf2.more p2 kp2, hr2, ?_⟩
              have q2 := Fi.weak p2 kp2 q'
              cases e4 : te f1 m2 with
              | no =>
                simp only [e4] at q2
                exact q2.elim
              | ex _ _ =>
                simp only [e4] at q2
                exact q2.elim
              | ok y m3 =>
                simp only [e4] at q2
                intro r3 yv H3 p3 kp3 hr3 hy
                have q3 := Fi.weak p3 kp3 q2
                have hp3 := pre_get p3 (pre_get p2 hpr)
                split at q3
                · rename_i acc ha
                  split at q3
                  · rename_i hl
                    obtain ⟨ys, hH, hvs⟩ := hr3.ob _ _ p ha hp3
                    obtain ⟨w1, w2⟩ := hr3.put (o := .lst (ys ++ [yv])) (u := .lst (acc ++ [y])) hp3 ha
                      ⟨ys ++ [yv], upd_same, (RVs.more (List.prefix_refl r3) (.put hH (fun _ z => nomatch z) (fun _ _ z => nomatch z)) acc ys hvs).app (.one (RV.more (List.prefix_refl r3) (.put hH (fun _ z => nomatch z) (fun _ _ z => nomatch z)) y yv hy))⟩
                    exact ⟨ys, hH, by rw [← hvs.length]; exact line6 hl, r3, _, (pr.trans p2).trans p3, (((kp.trans kp').trans kp2).trans kp3).trans w2, w1, Fi.weak (List.prefix_refl r3) w2 q3⟩
                  · exact q3.elim
                · exact q3.elim
/-- h: pe_lc calm nd SI blkOk SG STs SE -/
theorem se_lc {e : Expr} {gi : Fr → MH → Out Src} {tt : Fr → MH → Out Bool} {te : Fr → MH → Out D} {vs : List Nat} (hK : k.K = X.K) (ho : T.own vs = true) (h : PE X e (tLc (tM k (Feed k) W gi) (tG X.K T) (tM k RB W0 tt) (tM k (RV k) W0 te) vs)) : SE X W k e (gLc gi T tt te vs) :=
  ⟨fun pins s σ H Q I hq => h.run pins s σ H Q I (lc_reads hK ho hq)⟩
/-- y = [..]; h: ps_setLc .. -/
theorem ss_setLc {i : Nat} {st : Stmt} {gi : Fr → MH → Out Src} {tt : Fr → MH → Out Bool} {te : Fr → MH → Out D} {vs : List Nat} (hK : k.K = X.K) (ho : T.own vs = true) (h : PS X st (tAsg (tLc (tM k (Feed k) W gi) (tG X.K T) (tM k RB W0 tt) (tM k (RV k) W0 te) vs) (gName i))) :
    SS X W k st (sSet i (gLc gi T tt te vs)) :=
  ⟨fun pins s σ H E I hq => h.run pins s σ H E I (lc_reads hK ho (tS_bind (h := fun d f m1 => .go .nx (f.set i (some d)) m1) hq fun d r f m v H1 hf hr hv q => FiS.nx q hr (hf.set i hv)))⟩
end
end Mn
end

section
/-! Mini: tuples and dicts that are equal all through, dicts in them too: != tells False. -/
namespace Mn
open PySem PySem.Spec PySem.Calls PyProof.Rows PyProof.V L2 PySem.SeqAt
open AutoSeq1 (wpAny_loadPart')
open MeetsSeq MeetsSeq2 MeetsSeq3 SeqRoads2
section
variable {prog : Program} {w : World}
theorem ne_same_tuple (l b : Addr) (xs ys : Array Value) (n n2 : Nat) (dd dd2 : Option Addr) (sl sl2 : Array (Option Value)) (hsz : xs.size = ys.size) :
    MeetsIn prog w (Builtin.«tuple.__ne__» ⟨[.ref l, .ref b], []⟩)
      (fun A R s => s.heap.get? l = some { cls := .type "tuple", dict := dd, data := .seq xs n, slots := sl } ∧ s.heap.get? b = some { cls := .type "tuple", dict := dd2, data := .seq ys n2, slots := sl2 } ∧
        (∀ j (h1 : j < xs.size) (h2 : j < ys.size), EqIn prog w A.in1 s xs[j] ys[j] true) ∧ R (.ok (.ret (.bool false))) s) :=
  .of_wp fun A R s h => by
    obtain ⟨hp, g, d, tk, os⟩ := s
    obtain ⟨hl, hb, he, h⟩ := h
    have f2 := AutoSeq1.sub_tuple_tuple
    have hZ : (xs.toList.zip ys.toList).length = xs.size := by simp [hsz]
    wp_walk using wpAny_loadPart' hl, wpAny_loadPart' hb, wpAny_forIn_list _ (fun rest b s' => b.1 = none ∧ s' = ⟨hp, g, d, tk, os⟩ ∧ ∃ i, rest = (xs.toList.zip ys.toList).drop i) _
    case turn =>
      rintro ⟨y, x⟩ rest b s' ⟨hb', rfl, i, hz⟩
      have hlt : i < (xs.toList.zip ys.toList).length := by
        rcases Nat.lt_or_ge i (xs.toList.zip ys.toList).length with h' | h'
        · exact h'
        · rw [List.drop_of_length_le h'] at hz
          cases hz
      have h1 : i < xs.size := hZ ▸ hlt
      have h2 : i < ys.size := hsz ▸ h1
      rw [List.drop_eq_getElem_cons hlt] at hz
      injection hz with e1 e2
      have hy : y = xs[i] := by simpa using congrArg Prod.fst e1
      have hx : x = ys[i] := by simpa using congrArg Prod.snd e1
      subst hy hx
      refine wpAny_bind (he i h1 h2 _ _ ?_)
      wp_walk
      exact ⟨rfl, rfl, i + 1, e2⟩
    case fin =>
      rintro ⟨b1, b2⟩ s' ⟨hb', rfl, i, hz⟩
      simp only at hb'
      subst hb'
      wp_walk
      exact ⟨_, rfl, by simpa [Builtin.Tuple.tupleCompareSizes, bne, hsz] using h⟩
    case h =>
      exact ⟨rfl, rfl, 0, rfl⟩
end
section
variable {prog : Program} {w : World} {A : Around} {E : Value → Shared → Prop} {s : Shared}
theorem neT_tuples {n : Nat} {l l' : Addr} {vs vs' : Array Value} {Q : Value → Shared → Prop} (hl : s.heap.IsTuple l vs) (hl' : s.heap.IsTuple l' vs') (hsz : vs.size = vs'.size)
    (t : ∀ j (h1 : j < vs.size) (h2 : j < vs'.size), PySem.W.EqTree prog w s n vs[j] vs'[j] true) (hu : A.units + (n + 1) < cLine) (h : Q (.bool false) s) :
    wpAny (model prog w) A (compareOp .NotEq (.ref l) (.ref l')) Q E s := by
  obtain ⟨⟨cls, dd, data, sl⟩, ho, hc, n1, hd⟩ := id hl
  obtain ⟨⟨cls2, dd2, data2, sl2⟩, ho2, hc2, n2, hd2⟩ := id hl'
  simp only at hc hd hc2 hd2
  subst hc hd hc2 hd2
  have he : ∀ j (h1 : j < vs.size) (h2 : j < vs'.size), EqIn prog w A.in1 s vs[j] vs'[j] true := fun j h1 h2 => (t j h1 h2).at A.in1 (by show A.units + 1 + _ < cLine; omega)
  exact wpAny_richCompare_same_room (T := "tuple") (op := .NotEq) ⟨_, ho, rfl⟩ ⟨_, ho2, rfl⟩ F.slot_tuple_ne (call_meetsIn F.slot_tuple_ne ⟨_, ho, rfl⟩ F.entry_tuple_ne (F.args_tuple_ne_2 _ _) (ne_same_tuple l l' vs vs' n1 n2 dd dd2 sl sl2 hsz)
    ⟨ho, ho2, he, show Value.bool false ≠ Value.notImplemented ∧ Q (.bool false) s from ⟨(fun x => nomatch x), h⟩⟩) (by omega)
theorem neT_dicts {K : Type} [DecidableEq K] {knd : KeyKind prog w K} {a b : Addr} {ka kb : List (K × Value)} {Q : Value → Shared → Prop} (ha : (a == sysModules) = false) (hb : (b == sysModules) = false)
    (da : s.heap.DictOf knd a ka) (db : s.heap.DictOf knd b kb) (hu : A.units < cLine) (hl : ka.length = kb.length) (hits : PySem.W.KeqHitsIn prog w A.in1 s kb ka true) (h : Q (.bool false) s) :
    wpAny (model prog w) A (compareOp .NotEq (.ref a) (.ref b)) Q E s := by
  refine wpAny_richCompare_same_room (op := .NotEq) da.typeIs db.typeIs PySem.F.slot_dict_ne (wpAny_call_entry PySem.F.slot_dict_ne da.typeIs PySem.F.entry_dict_ne ?_ (PySem.F.args_dict_ne_2 _ _)) hu
  show wpAny _ _ (Builtin.Dict.dictSlotArgs "__ne__" ⟨[.ref a, .ref b], []⟩ >>= _) _ _ s
  refine wpAny_bind ?_
  unfold Builtin.Dict.dictSlotArgs
  refine wpAny_bind (wpAny_notOrdered_dict da.typeIs ?_)
  show wpAny _ _ (pure (Value.ref a, Value.ref b)) _ _ s
  refine wpAny_pure ?_
  refine wpAny_bind (wpAny_isInstance (T := "dict") db.typeIs PySem.F.sub_dict_dict ?_)
  simp only [Bool.not_true, Bool.false_eq_true, if_false]
  refine wpAny_bind (wpAny_pure (wpAny_bind (wpAny_pure ?_)))
  refine wpAny_bind (PySem.W.keq_samePairsIn ha hb da db (fun _ => hits) ?_)
  refine wpAny_pure ⟨_, rfl, ?_, ?_⟩
  · exact fun x => nomatch x
  · simpa [hl] using h
end
def findK (kvs : List (DK × D)) (j : DK) : Option D := (kvs.find? fun kv => decide (kv.1 = j)).map (·.2)
def allTwo (f : D → D → Bool) : List D → List D → Bool
  | [], [] => true
  | x :: xs, y :: ys => f x y && allTwo f xs ys
  | _, _ => false
/-- the same all through, dicts in it too -/
def sameD (m : MH) : Nat → D → D → Bool
  | 0, _, _ => false
  | n + 1, a, b => match a, b with
    | .non, .non => true
    | .bl x, .bl y => decide (x = y)
    | .int x, .int y => decide (x = y)
    | .str x, .str y => decide (x = y)
    | .tup xs, .tup ys => allTwo (sameD m n) xs ys
    | .ref x, .ref y => match m[x]?, m[y]? with
      | some (.lst xs), some (.lst ys) => allTwo (sameD m n) xs ys
      | some (.dct ks), some (.dct ls) => decide (ks.length = ls.length) && ks.all fun p => match findK ls p.1 with
        | some u => sameD m n p.2 u
        | none => false
      | _, _ => false
    | _, _ => false
/-- the same, two tuples or two dicts -/
def same0 (m : MH) : D → D → Bool
  | .tup xs, .tup ys => allTwo (sameD m 50) xs ys
  | .ref x, .ref y => match m[x]?, m[y]? with
      | some (.dct ks), some (.dct ls) => decide (ks.length = ls.length) && ks.all fun p => match findK ls p.1 with
        | some u => sameD m 50 p.2 u
        | none => false
      | _, _ => false
  | _, _ => false
section
variable {k : Kx}
theorem val_rv {r : List Addr} {H : Hp} (j : DK) : ∀ {kvs : List (DK × D)} {ys : List (Key × V)}, RKs k r H kvs ys → (findK kvs j = none ∧ valV ys (dkK j) = none) ∨ ∃ d v, findK kvs j = some d ∧ valV ys (dkK j) = some v ∧ RV k r H d v
  | [], _, h => by
    obtain rfl : _ = [] := h
    exact .inl ⟨rfl, rfl⟩
  | (a, d) :: kvs, _, ⟨y, t, e, h1, h2⟩ => by
    subst e
    by_cases hj : a = j
    · subst hj
      exact .inr ⟨d, y, by simp [findK], valV_pos rfl, h1⟩
    · have e1 : findK ((a, d) :: kvs) j = findK kvs j := by simp [findK, hj]
      rw [e1, valV_neg fun z => hj (dkK_inj z)]
      exact val_rv j h2
theorem RKs.length {r : List Addr} {H : Hp} : ∀ {ds : List (DK × D)} {vs : List (Key × V)}, RKs k r H ds vs → ds.length = vs.length
  | [], _, h => by
    obtain rfl : _ = [] := h
    rfl
  | x :: xs, _, ⟨y, t, e, _, q⟩ => by
    rw [e, List.length_cons, List.length_cons, RKs.length q]

theorem RKs.mem {r : List Addr} {H : Hp} : ∀ {ks : List (DK × D)} {vs : List (Key × V)}, RKs k r H ks vs → ∀ p ∈ vs, ∃ j d, p.1 = dkK j ∧ (j, d) ∈ ks ∧ RV k r H d p.2
  | [], _, h, p, hp => by
    obtain rfl : _ = [] := h
    exact nomatch hp
  | x :: xs, _, ⟨y, t, e, h1, q⟩, p, hp => by
    subst e
    rcases List.mem_cons.mp hp with rfl | hp
    · exact ⟨x.1, x.2, rfl, List.mem_cons_self, h1⟩
    · obtain ⟨j, d, e1, e2, e3⟩ := RKs.mem q p hp
      exact ⟨j, d, e1, List.mem_cons_of_mem _ e2, e3⟩
theorem KV.memV {ks : List (Key × V)} {vs : List (Key × Value)} (h : KV ks vs) : ∀ p ∈ vs, ∃ x, (p.1, x) ∈ ks ∧ RelV x p.2 := by
  unfold KV at h
  induction h with
  | nil => exact fun p hp => nomatch hp
  | @cons a b as bs h t ih =>
    intro p hp
    rcases List.mem_cons.mp hp with rfl | hp
    · exact ⟨a.2, by rw [← h.1]; exact List.mem_cons_self, h.2⟩
    · obtain ⟨x, e1, e2⟩ := ih p hp
      exact ⟨x, List.mem_cons_of_mem _ e1, e2⟩
variable {X : Cx} {pins : List (Addr × Obj)} {σ : L2.St} {H : Hp} {s : Shared} {r : List Addr} {m : MH}
def SameOk (X : Cx) (s : Shared) (k : Kx) (r : List Addr) (H : Hp) (n : Nat) (f : D → D → Bool) : Prop := ∀ a b x y v u, f a b = true → RV k r H a x → RV k r H b y → RelV x v → RelV y u → PySem.W.EqTree X.prog X.w s n v u true
theorem two_items {f : D → D → Bool} {n : Nat} (hf : SameOk X s k r H n f) : ∀ {xs ys : List D} {us vs : List V} {ws zs : List Value}, allTwo f xs ys = true → RVs k r H xs us → RVs k r H ys vs → Vals us ws → Vals vs zs →
    ws.length = zs.length ∧ ∀ j (h1 : j < ws.length) (h2 : j < zs.length), PySem.W.EqTree X.prog X.w s n ws[j] zs[j] true
  | [], [], us, vs, ws, zs, _, h1, h2, r1, r2 => by
    obtain rfl : us = [] := h1
    obtain rfl : vs = [] := h2
    cases r1
    cases r2
    exact ⟨rfl, fun j h => absurd h (Nat.not_lt_zero j)⟩
  | x :: xs, y :: ys, _, _, ws, zs, h, ⟨a, as, e1, h1, q1⟩, ⟨b, bs, e2, h2, q2⟩, r1, r2 => by
    subst e1 e2
    have h : (f x y && allTwo f xs ys) = true := h
    rw [Bool.and_eq_true] at h
    cases r1 with
    | cons a1 b1 =>
      cases r2 with
      | cons a2 b2 =>
        obtain ⟨hl, ih⟩ := two_items hf h.2 q1 q2 b1 b2
        refine ⟨by rw [List.length_cons, List.length_cons, hl], fun j h1' h2' => ?_⟩
        cases j with
        | zero => exact hf _ _ _ _ _ _ h.1 h1 h2 a1 a2
        | succ j => exact ih j (Nat.lt_of_succ_lt_succ h1') (Nat.lt_of_succ_lt_succ h2')
  | [], _ :: _, _, _, _, _, h, _, _, _, _ => nomatch h
  | _ :: _, [], _, _, _, _, h, _, _, _, _ => nomatch h
theorem two_dicts {f : D → D → Bool} {n : Nat} (hf : SameOk X s k r H n f) {ks ls : List (DK × D)} {us vs : List (Key × V)} {ws zs : List (Key × Value)} (h : (ks.all fun p => match findK ls p.1 with | some u => f p.2 u | none => false) = true)
    (h1 : RKs k r H ks us) (h2 : RKs k r H ls vs) (r1 : KV us ws) (r2 : KV vs zs) : ∀ p ∈ ws, ∃ y, valueAt zs p.1 = some y ∧ PySem.W.EqTree X.prog X.w s n p.2 y true := by
  intro p hp
  obtain ⟨x, m1, rx⟩ := KV.memV r1 p hp
  obtain ⟨j, d, e1, m2, rd⟩ := RKs.mem h1 _ m1
  have hh := List.all_eq_true.mp h _ m2
  have e1 : p.1 = dkK j := e1
  rcases val_rv j h2 with ⟨f1, f2⟩ | ⟨d2, v2, f1, f2, f3⟩
  · dsimp only at hh
    rw [f1] at hh
    exact nomatch hh
  · dsimp only at hh
    rw [f1] at hh
    have rr : RelO (some v2) (valueAt zs p.1) := by rw [e1, ← f2]; exact r2.val _
    obtain ⟨y, hy, ry⟩ := rr.some_of
    exact ⟨y, hy, hf _ _ _ _ _ _ hh rd f3 rx ry⟩
theorem all_yes (n : Nat) : ((List.range n).all fun _ => true) = true := List.all_eq_true.mpr fun _ _ => rfl
theorem same_tree (I : Inv X pins σ H s) (hK : X.K = k.K) (hr : HR k r m H) : ∀ n, SameOk X s k r H n (sameD m n)
  | 0 => fun a b x y v u h _ _ _ _ => nomatch h
  | n + 1 => fun a b x y v u h ha hb rx ry => by
    have ih := same_tree I hK hr n
    unfold sameD at h
    split at h
    · obtain rfl : x = _ := ha
      obtain rfl : y = _ := hb
      exact .leaf fun A _ => eqAt_same rx ry rfl
    · rw [of_decide_eq_true h] at ha
      obtain rfl : x = _ := ha
      obtain rfl : y = _ := hb
      exact .leaf fun A _ => eqAt_same rx ry rfl
    · rw [of_decide_eq_true h] at ha
      obtain rfl : x = _ := ha
      obtain rfl : y = _ := hb
      exact .leaf fun A _ => eqAt_same rx ry rfl
    · rw [of_decide_eq_true h] at ha
      obtain rfl : x = _ := ha
      obtain rfl : y = _ := hb
      exact .leaf fun A _ => eqAt_same rx ry rfl
    · obtain ⟨a1, us, rfl, ht1, q1⟩ := ha
      obtain ⟨a2, vs, rfl, ht2, q2⟩ := hb
      cases (show v = Value.ref a1 from rx)
      cases (show u = Value.ref a2 from ry)
      by_cases e : a1 = a2
      · subst e
        exact .same
      obtain ⟨ws, r1, ⟨o1, k1, k2, n1, k3⟩, _⟩ := I.tuple (hK ▸ ht1.sq)
      obtain ⟨zs, r2, ⟨o2, l1, l2, n2, l3⟩, _⟩ := I.tuple (hK ▸ ht2.sq)
      obtain ⟨hl, hi⟩ := two_items ih h q1 q2 r1 r2
      have t := PySem.W.EqTree.tuples (prog := X.prog) (w := X.w) (n := n) (e := fun _ => true) e ⟨o1, k1, k2, n1, k3⟩ ⟨o2, l1, l2, n2, l3⟩ (fun j h1 h2 => by simpa using hi j (by simpa using h1) (by simpa using h2))
      rw [all_yes, Bool.true_and] at t
      simpa [hl] using t
    · obtain ⟨a1, rfl, ha1⟩ := ha
      obtain ⟨a2, rfl, ha2⟩ := hb
      cases (show v = Value.ref a1 from rx)
      cases (show u = Value.ref a2 from ry)
      by_cases e : a1 = a2
      · subst e
        exact .same
      split at h
      · rename_i xs ys hx hy
        obtain ⟨us, hu1, q1⟩ := hr.ob _ _ _ hx ha1
        obtain ⟨vs, hv1, q2⟩ := hr.ob _ _ _ hy ha2
        obtain ⟨ws, r1, p1, _⟩ := I.list (.of hu1)
        obtain ⟨zs, r2, p2, _⟩ := I.list (.of hv1)
        obtain ⟨hl, hi⟩ := two_items ih h q1 q2 r1 r2
        have t := PySem.W.EqTree.lists (prog := X.prog) (w := X.w) (n := n) (e := fun _ => true) e p1.isList p2.isList (by simpa using hl) (fun j h1 h2 => by simpa using hi j (by simpa using h1) (by simpa using h2))
        rw [all_yes] at t
        exact t
      · rename_i ks ls hx hy
        rw [Bool.and_eq_true] at h
        obtain ⟨us, hu1, q1⟩ := hr.ob _ _ _ hx ha1
        obtain ⟨vs, hv1, q2⟩ := hr.ob _ _ _ hy ha2
        obtain ⟨_, ya, va, ra, da⟩ := (show ObjOk X.prog X.w H s.heap a1 (.dK us) from I.hok a1 _ hu1)
        obtain ⟨_, yb, vb, rb, db⟩ := (show ObjOk X.prog X.w H s.heap a2 (.dK vs) from I.hok a2 _ hv1)
        have hh := two_dicts ih h.2 q1 q2 ra rb
        have t := PySem.W.EqTree.dicts (knd := mixKind X.prog X.w) (n := n) (e := fun _ => true) e ya yb da db (fun kk vv yy hm hv => by
          obtain ⟨y, e1, e2⟩ := hh _ hm
          have e1 : valueAt vb kk = some y := e1
          rw [e1] at hv
          cases hv
          exact e2)
        have ev : (va.all fun p => (valueAt vb p.1).isSome && true) = true := List.all_eq_true.mpr fun p hp => by
          obtain ⟨y, e1, _⟩ := hh p hp
          rw [e1]
          rfl
        have hl : va.length = vb.length := by
          rw [← ra.length, ← rb.length, ← q1.length, ← q2.length]
          exact of_decide_eq_true h.1
        rw [ev, hl] at t
        simpa using t
      · exact nomatch h
    · exact nomatch h
theorem same_parts {a b : D} {x y : V} {v u : Value} (I : Inv X pins σ H s) (hK : X.K = k.K) (hr : HR k r m H) (h : same0 m a b = true) (ha : RV k r H a x) (hb : RV k r H b y) (rx : RelV x v) (ry : RelV y u) :
    (∃ l l' ws zs, v = .ref l ∧ u = .ref l' ∧ s.heap.IsTuple l ws ∧ s.heap.IsTuple l' zs ∧ ws.size = zs.size ∧ ∀ j (h1 : j < ws.size) (h2 : j < zs.size), PySem.W.EqTree X.prog X.w s 50 ws[j] zs[j] true) ∨
    ∃ l l' va vb, v = .ref l ∧ u = .ref l' ∧ (l == sysModules) = false ∧ (l' == sysModules) = false ∧ s.heap.DictOf (mixKind X.prog X.w) l va ∧ s.heap.DictOf (mixKind X.prog X.w) l' vb ∧ va.length = vb.length ∧
      ∀ p ∈ va, ∃ y, valueAt vb p.1 = some y ∧ PySem.W.EqTree X.prog X.w s 50 p.2 y true := by
  have ih := same_tree I hK hr 50
  unfold same0 at h
  split at h
  · obtain ⟨a1, us, rfl, ht1, q1⟩ := ha
    obtain ⟨a2, vs, rfl, ht2, q2⟩ := hb
    cases (show v = Value.ref a1 from rx)
    cases (show u = Value.ref a2 from ry)
    obtain ⟨ws, r1, ⟨o1, k1, k2, n1, k3⟩, _⟩ := I.tuple (hK ▸ ht1.sq)
    obtain ⟨zs, r2, ⟨o2, l1, l2, n2, l3⟩, _⟩ := I.tuple (hK ▸ ht2.sq)
    obtain ⟨hl, hi⟩ := two_items ih h q1 q2 r1 r2
    exact .inl ⟨_, _, ws.toArray, zs.toArray, rfl, rfl, ⟨o1, k1, k2, n1, k3⟩, ⟨o2, l1, l2, n2, l3⟩, by simpa using hl, fun j h1 h2 => by simpa using hi j (by simpa using h1) (by simpa using h2)⟩
  · obtain ⟨a1, rfl, ha1⟩ := ha
    obtain ⟨a2, rfl, ha2⟩ := hb
    cases (show v = Value.ref a1 from rx)
    cases (show u = Value.ref a2 from ry)
    split at h
    · rename_i ks ls hx hy
      rw [Bool.and_eq_true] at h
      obtain ⟨us, hu1, q1⟩ := hr.ob _ _ _ hx ha1
      obtain ⟨vs, hv1, q2⟩ := hr.ob _ _ _ hy ha2
      obtain ⟨_, ya, va, ra, da⟩ := (show ObjOk X.prog X.w H s.heap a1 (.dK us) from I.hok a1 _ hu1)
      obtain ⟨_, yb, vb, rb, db⟩ := (show ObjOk X.prog X.w H s.heap a2 (.dK vs) from I.hok a2 _ hv1)
      exact .inr ⟨_, _, va, vb, rfl, rfl, ya, yb, da, db, by rw [← ra.length, ← rb.length, ← q1.length, ← q2.length]; exact of_decide_eq_true h.1, two_dicts ih h.2 q1 q2 ra rb⟩
    · exact nomatch h
  · exact nomatch h
theorem hits_same {A : Around} (hu : A.units + 50 < cLine) {va vb : List (Key × Value)} (h : ∀ p ∈ va, ∃ y, valueAt vb p.1 = some y ∧ PySem.W.EqTree X.prog X.w s 50 p.2 y true) : PySem.W.KeqHitsIn X.prog X.w A s vb va true := by
  have q := PySem.W.KeqHitsIn.of (prog := X.prog) (w := X.w) (A := A) (s := s) (kb := vb) (e := fun _ => true) va fun kk vv yy hm hv => by
    obtain ⟨y, e1, e2⟩ := h _ hm
    have e1 : valueAt vb kk = some y := e1
    rw [e1] at hv
    cases hv
    exact e2.at A hu
  have ev : (va.all fun p => (valueAt vb p.1).isSome && true) = true := List.all_eq_true.mpr fun p hp => by
    obtain ⟨y, e1, _⟩ := h p hp
    rw [e1]
    rfl
  rw [ev] at q
  exact q
theorem eq_same {a b : D} {x y : V} {v u : Value} {E Q : Value → Shared → Prop} (I : Inv X pins σ H s) (hK : X.K = k.K) (hr : HR k r m H) (hu : X.A.units + 64 < cLine) (h : same0 m a b = true) (ha : RV k r H a x) (hb : RV k r H b y) (rx : RelV x v) (ry : RelV y u)
    (q : Q (.bool true) s) : wpAny (model X.prog X.w) X.A (compareOp .Eq v u) Q E s := by
  rcases same_parts I hK hr h ha hb rx ry with ⟨l, l', ws, zs, rfl, rfl, h1, h2, h3, h4⟩ | ⟨l, l', va, vb, rfl, rfl, ya, yb, da, db, hl, hh⟩
  · refine PySem.W.eq_tuplesT (n := 50) (e := fun _ => true) h1 h2 h4 (by omega) ?_
    rw [all_yes, Bool.true_and]
    simpa [h3] using q
  · refine PySem.W.keq_eqIn ya yb da db (by omega) (fun _ => hits_same (by show X.A.units + 1 + 50 < cLine; omega) hh) ?_
    simpa [hl] using q
theorem ne_same {a b : D} {x y : V} {v u : Value} {E Q : Value → Shared → Prop} (I : Inv X pins σ H s) (hK : X.K = k.K) (hr : HR k r m H) (hu : X.A.units + 64 < cLine) (h : same0 m a b = true) (ha : RV k r H a x) (hb : RV k r H b y) (rx : RelV x v) (ry : RelV y u)
    (q : Q (.bool false) s) : wpAny (model X.prog X.w) X.A (compareOp .NotEq v u) Q E s := by
  rcases same_parts I hK hr h ha hb rx ry with ⟨l, l', ws, zs, rfl, rfl, h1, h2, h3, h4⟩ | ⟨l, l', va, vb, rfl, rfl, ya, yb, da, db, hl, hh⟩
  · exact neT_tuples (n := 50) h1 h2 h3 h4 (by omega) q
  · exact neT_dicts ya yb da db (by omega) hl (hits_same (by show X.A.units + 1 + 50 < cLine; omega) hh) q
end
end Mn
end

section
/-! Mini, part H: operators over plain data. -/
namespace Mn
open PySem PySem.Spec PyProof.Rows L2

def addD : D → D → MH → Opt D
  | .int i, .int j, m => some (.int (i + j), m)
  | .int i, .bl b, m => some (.int (i + (if b then 1 else 0)), m)
  | .str x, .str y, m => if x.length + y.length ≤ 100000 then some (.str (x ++ y), m) else none
  | .tup x, .tup y, m => if x.length + y.length ≤ 100000 then some (.tup (x ++ y), m) else none
  | .ref a, .ref b, m => match m[a]?, m[b]? with
    | some (.lst x), some (.lst y) => if x.length + y.length ≤ 100000 then some (.ref m.length, m ++ [.lst (x ++ y)]) else none
    | _, _ => none
  | _, _, _ => none
def subD : D → D → MH → Opt D
  | .int i, .int j, m => some (.int (i - j), m)
  | _, _, _ => none
def mulOk (i j : Int) : Bool := (i.natAbs < 2 ^ 64) || (j.natAbs < 2 ^ 64)
def mulD : D → D → MH → Opt D
  | .int i, .int j, m => if mulOk i j then some (.int (i * j), m) else none
  | _, _, _ => none
def divD : D → D → MH → Opt D
  | .int i, .int j, m => if 0 < j ∧ j < 1073741824 then some (.int (i / j), m) else none
  | _, _, _ => none
def modD : D → D → MH → Opt D
  | .int i, .int j, m => if 0 < j then some (.int (i % j), m) else none
  | _, _, _ => none
def powD : D → D → MH → Opt D
  | .int i, .int j, m => if 0 ≤ j ∧ j ≤ 1000 ∧ i.natAbs < 2 ^ 64 then some (.int (i ^ j.toNat), m) else none
  | _, _, _ => none
def negD : D → MH → Opt D
  | .int i, m => some (.int (-i), m)
  | _, _ => none

/-! ### data as a whole -/
mutual
def toPy (m : MH) : Nat → D → Option PyData
  | _, .non => some .none
  | _, .bl b => some (.bool b)
  | _, .int i => some (.int i)
  | _, .str x => some (.str (tx x))
  | 0, _ => none
  | n + 1, .tup xs => (toPys m n xs).map .tuple
  | n + 1, .frl xs => (toPys m n xs).map .list
  | n + 1, .ref a => match m[a]? with
    | some (.lst xs) => (toPys m n xs).map .list
    | _ => none
  | _, .cst _ => none
def toPys (m : MH) : Nat → List D → Option (List PyData)
  | _, [] => some []
  | 0, _ => none
  | n + 1, x :: xs => match toPy m n x, toPys m n xs with
    | some p, some ps => some (p :: ps)
    | _, _ => none
end

section
variable {k : Kx} {r : List Addr} {H : Hp} {m : MH}
theorem toPy_ok (hr : HR k r m H) : ∀ (n : Nat), (∀ (d : D) (v : V) (p : PyData), RV k r H d v → toPy m n d = some p → Dp k.K H v p) ∧ (∀ (ds : List D) (vs : List V) (ps : List PyData), RVs k r H ds vs → toPys m n ds = some ps → DpAll k.K H vs ps) := by
  intro n
  induction n with
  | zero =>
    refine ⟨fun d v p hv e => ?_, fun ds vs ps hv e => ?_⟩
    · cases d with
      | non =>
        cases e
        rw [show v = V.non from hv]
        exact .non
      | bl b =>
        cases e
        rw [show v = V.bl b from hv]
        exact .bl b
      | int i =>
        cases e
        rw [show v = V.int i from hv]
        exact .int i
      | str x =>
        cases e
        rw [show v = V.str (tx x) from hv]
        exact .str _
      | _ => cases e
    · cases ds with
      | nil =>
        cases e
        rw [show vs = [] from hv]
        exact .nil
      | cons _ _ => cases e
  | succ n ih =>
    obtain ⟨ih1, ih2⟩ := ih
    refine ⟨fun d v p hv e => ?_, fun ds vs ps hv e => ?_⟩
    · cases d with
      | non =>
        cases e
        rw [show v = V.non from hv]
        exact .non
      | bl b =>
        cases e
        rw [show v = V.bl b from hv]
        exact .bl b
      | int i =>
        cases e
        rw [show v = V.int i from hv]
        exact .int i
      | str x =>
        cases e
        rw [show v = V.str (tx x) from hv]
        exact .str _
      | tup xs =>
        obtain ⟨a, ys, rfl, ht, hs⟩ := hv
        have e : (toPys m n xs).map PyData.tuple = some p := e
        cases e2 : toPys m n xs with
        | none =>
          rw [e2] at e
          cases e
        | some ps =>
          rw [e2] at e
          cases e
          exact .tup ht.sq (ih2 xs ys ps hs e2)
      | frl xs =>
        obtain ⟨a, ys, rfl, ht, hs⟩ := hv
        have e : (toPys m n xs).map PyData.list = some p := e
        cases e2 : toPys m n xs with
        | none =>
          rw [e2] at e
          cases e
        | some ps =>
          rw [e2] at e
          cases e
          exact .lst ht.sq (ih2 xs ys ps hs e2)
      | ref j =>
        obtain ⟨a, rfl, ha⟩ := hv
        unfold toPy at e
        split at e
        · rename_i xs hx
          obtain ⟨ys, hy, hs⟩ := hr.ob j _ a hx ha
          cases e2 : toPys m n xs with
          | none =>
            rw [e2] at e
            cases e
          | some ps =>
            rw [e2] at e
            cases e
            exact .lst (.of hy) (ih2 xs ys ps hs e2)
        · cases e
      | cst _ => cases e
    · cases ds with
      | nil =>
        cases e
        rw [show vs = [] from hv]
        exact .nil
      | cons d ds =>
        obtain ⟨y, t, rfl, h1, h2⟩ := hv
        unfold toPys at e
        split at e
        · rename_i p ps e1 e2
          cases e
          exact .cons (ih1 d y p h1 e1) (ih2 ds t ps h2 e2)
        · cases e
end

section
variable {m : MH} {n : Nat}
theorem toPy_non : toPy m n .non = some .none := by cases n <;> rfl
theorem toPy_bl {b : Bool} : toPy m n (.bl b) = some (.bool b) := by cases n <;> rfl
theorem toPy_int {i : Int} : toPy m n (.int i) = some (.int i) := by cases n <;> rfl
theorem toPy_str {x : Tx} : toPy m n (.str x) = some (.str (tx x)) := by cases n <;> rfl
theorem toPy_cst {c : Nat} : toPy m n (.cst c) = none := by cases n <;> rfl
theorem toPys_nil : toPys m n [] = some [] := by cases n <;> rfl
end
@[irreducible] def pyF : Nat := 1000000
theorem pyF_eq : pyF = 1000000 := by
  unfold pyF
  rfl
/-- == : scalars by their kind, else data as a whole -/
def eqD : D → D → MH → Opt D
  | .int i, .int j, m => some (.bl (decide (i = j)), m)
  | .str x, .str y, m => some (.bl (decide (x = y)), m)
  | .bl i, .bl j, m => some (.bl (decide (i = j)), m)
  | a, b, m => match toPy m pyF a, toPy m pyF b with
    | some p, some q => if SeqAt.shaped p && SeqAt.shaped q then some (.bl (PyData.eqv p q), m) else none
    | _, _ => if same0 m a b then some (.bl true, m) else none
def notO : Opt D → Opt D
  | some (.bl b, m) => some (.bl (!b), m)
  | _ => none
def neD (a b : D) (m : MH) : Opt D := notO (eqD a b m)
def ltD : D → D → MH → Opt D
  | .int i, .int j, m => some (.bl (decide (i < j)), m)
  | .str x, .str y, m => some (.bl (decide (x < y)), m)
  | _, _, _ => none
def leD : D → D → MH → Opt D
  | .int i, .int j, m => some (.bl (decide (i ≤ j)), m)
  | .str x, .str y, m => some (.bl (!decide (y < x)), m)
  | _, _, _ => none
def gtD : D → D → MH → Opt D := fun a b m => ltD b a m
def geD : D → D → MH → Opt D := fun a b m => leD b a m
def isND : D → D → MH → Opt D
  | a, .non, m => some (.bl (match a with | .non => true | _ => false), m)
  | .bl a, .bl b, m => some (.bl (decide (a = b)), m)
  | _, _, _ => none
def notND (a b : D) (m : MH) : Opt D := notO (isND a b m)
/-- one text in another -/
def inTx (x y : Tx) : Bool := (List.range (y.length + 1)).any fun i => decide ((y.drop i).take x.length = x)
def keyOf : D → Option DK
  | .int i => some (.inl i)
  | .str x => some (.inr x)
  | _ => none
def itemsOf (d : D) (m : MH) : Option (List D) := match d with
  | .tup xs => some xs
  | .frl xs => some xs
  | .ref n => match m[n]? with
    | some (.lst xs) => some xs
    | _ => none
  | _ => none

section
variable {X : Cx} {W : WX} {k : Kx} {n : Nat}
theorem tx_app (x y : Tx) : tx x ++ tx y = tx (x ++ y) := by
  show Str.mk (x.toArray ++ y.toArray) = Str.mk (x ++ y).toArray
  rw [List.append_toArray]
theorem or_add (A : At X W k n) : OpR X (binaryOp .Add) (r2 k addD) := by
  intro pins s σ H x y v u Q I rx ry h
  obtain ⟨r, m, a, b, hr, ha, hb, q⟩ := h
  unfold addD at q
  split at q
  · exact op_add pins s σ H x y v u Q I rx ry ⟨_, _, ha, hb, Ok.pure q hr rfl⟩
  · rename_i i c
    refine op_add_ib pins s σ H x y v u Q I rx ry ⟨_, _, ha, hb, ?_⟩
    exact Ok.pure q hr rfl
  · split at q
    · rename_i x y hl
      refine op_add_str pins s σ H _ _ v u Q I rx ry ⟨_, _, ha, hb, line5 hl, ?_⟩
      rw [tx_app]
      exact Ok.pure q hr rfl
    · exact q.elim
  · split at q
    · rename_i x y hl
      obtain ⟨a, xs, rfl, ta, va⟩ := ha
      obtain ⟨b, ys, rfl, tb, vb⟩ := hb
      refine op_catA pins s σ H _ _ v u Q I rx ry ⟨a, b, xs, ys, rfl, rfl, A.kk ▸ ta.sq, A.kk ▸ tb.sq, by rw [← va.length, ← vb.length]; exact line5 hl, fun e => ?_, fun _ e => ?_, fun _ _ => new_tup q hr (va.app vb)⟩
      · subst e
        have e0 := va.length
        rw [List.length_nil] at e0
        have e1 := List.eq_nil_of_length_eq_zero e0
        subst e1
        exact Ok.pure q hr ⟨b, ys, rfl, tb, vb⟩
      · subst e
        have e0 := vb.length
        rw [List.length_nil] at e0
        have e1 := List.eq_nil_of_length_eq_zero e0
        subst e1
        rw [List.append_nil] at q
        exact Ok.pure q hr ⟨a, xs, rfl, ta, va⟩
    · exact q.elim
  · split at q
    · rename_i i j _ _ x y hx hy
      split at q
      · rename_i hl
        obtain ⟨a, rfl, ea⟩ := ha
        obtain ⟨b, rfl, eb⟩ := hb
        obtain ⟨xs, h1, v1⟩ := hr.ob _ _ a hx ea
        obtain ⟨ys, h2, v2⟩ := hr.ob _ _ b hy eb
        exact op_cat pins s σ H _ _ v u Q I rx ry ⟨a, b, xs, ys, rfl, rfl, h1, h2, by rw [← v1.length, ← v2.length]; exact line5 hl, new_lst q hr (v1.app v2)⟩
      · exact q.elim
    · exact q.elim
  · exact q.elim
/-- x += y of texts and numbers (no lists) -/
def iaddD : D → D → MH → Opt D
  | .int i, .int j, m => some (.int (i + j), m)
  | .str x, .str y, m => if x.length + y.length ≤ 100000 then some (.str (x ++ y), m) else none
  | _, _, _ => none
theorem or_iadd : OpR X (inplaceOp .Add) (r2 k iaddD) := by
  intro pins s σ H x y v u Q I rx ry h
  obtain ⟨r, m, a, b, hr, ha, hb, q⟩ := h
  unfold iaddD at q
  split at q
  · exact iop_add pins s σ H x y v u Q I rx ry ⟨_, _, ha, hb, Ok.pure q hr rfl⟩
  · split at q
    · rename_i x y hl
      refine iop_add_str pins s σ H _ _ v u Q I rx ry ⟨_, _, ha, hb, line5 hl, ?_⟩
      rw [tx_app]
      exact Ok.pure q hr rfl
    · exact q.elim
  · exact q.elim
theorem or_sub : OpR X (binaryOp .Sub) (r2 k subD) := by
  intro pins s σ H x y v u Q I rx ry h
  obtain ⟨r, m, a, b, hr, ha, hb, q⟩ := h
  unfold subD at q
  split at q
  · exact op_sub pins s σ H x y v u Q I rx ry ⟨_, _, ha, hb, Ok.pure q hr rfl⟩
  · exact q.elim
theorem or_isub : OpR X (inplaceOp .Sub) (r2 k subD) := by
  intro pins s σ H x y v u Q I rx ry h
  obtain ⟨r, m, a, b, hr, ha, hb, q⟩ := h
  unfold subD at q
  split at q
  · exact iop_sub pins s σ H x y v u Q I rx ry ⟨_, _, ha, hb, Ok.pure q hr rfl⟩
  · exact q.elim
theorem or_mul : OpR X (binaryOp .Mult) (r2 k mulD) := by
  intro pins s σ H x y v u Q I rx ry h
  obtain ⟨r, m, a, b, hr, ha, hb, q⟩ := h
  unfold mulD at q
  split at q
  · rename_i i j
    split at q
    · rename_i hl
      refine op_mul pins s σ H x y v u Q I rx ry ⟨_, _, ha, hb, ?_, Ok.pure q hr rfl⟩
      unfold mulOk at hl
      rw [Bool.or_eq_true, decide_eq_true_eq, decide_eq_true_eq] at hl
      unfold CMul
      omega
    · exact q.elim
  · exact q.elim
theorem or_div : OpR X (binaryOp .FloorDiv) (r2 k divD) := by
  intro pins s σ H x y v u Q I rx ry h
  obtain ⟨r, m, a, b, hr, ha, hb, q⟩ := h
  unfold divD at q
  split at q
  · split at q
    · rename_i hl
      exact op_fdiv pins s σ H x y v u Q I rx ry ⟨_, _, ha, hb, hl, Ok.pure q hr rfl⟩
    · exact q.elim
  · exact q.elim
theorem or_mod : OpR X (binaryOp .Mod) (r2 k modD) := by
  intro pins s σ H x y v u Q I rx ry h
  obtain ⟨r, m, a, b, hr, ha, hb, q⟩ := h
  unfold modD at q
  split at q
  · split at q
    · rename_i hl
      exact op_mod pins s σ H x y v u Q I rx ry ⟨_, _, ha, hb, hl, Ok.pure q hr rfl⟩
    · exact q.elim
  · exact q.elim
theorem or_pow : OpR X (binaryOp .Pow) (r2 k powD) := by
  intro pins s σ H x y v u Q I rx ry h
  obtain ⟨r, m, a, b, hr, ha, hb, q⟩ := h
  unfold powD at q
  split at q
  · split at q
    · rename_i hl
      exact op_pow pins s σ H x y v u Q I rx ry ⟨_, _, ha, hb, ⟨hl.1, Int.le_trans hl.2.1 (by decide), hl.2.2⟩, Ok.pure q hr rfl⟩
    · exact q.elim
  · exact q.elim
theorem ur_neg : UnR X (unaryOp .USub) (r1 k negD) := by
  intro pins s σ H x v Q I rx h
  obtain ⟨r, m, a, hr, ha, q⟩ := h
  unfold negD at q
  split at q
  · exact un_neg pins s σ H x v Q I rx ⟨_, ha, Ok.pure q hr rfl⟩
  · exact q.elim
theorem tx_eq (x y : Tx) : decide (V.str (tx x) = V.str (tx y)) = decide (x = y) := by
  by_cases h : x = y
  · rw [h, decide_eq_true rfl, decide_eq_true rfl]
  · rw [decide_eq_false h, decide_eq_false fun e => h (tx_inj (V.str.inj e))]
theorem int_eq (x y : Int) : decide (V.int x = V.int y) = decide (x = y) := by
  by_cases h : x = y
  · rw [h, decide_eq_true rfl, decide_eq_true rfl]
  · rw [decide_eq_false h, decide_eq_false fun e => h (V.int.inj e)]
theorem bl_eq (x y : Bool) : decide (V.bl x = V.bl y) = decide (x = y) := by
  by_cases h : x = y
  · rw [h, decide_eq_true rfl, decide_eq_true rfl]
  · rw [decide_eq_false h, decide_eq_false fun e => h (V.bl.inj e)]
theorem hu64 (A : At X W k n) : X.A.units + 64 < cLine := A.hr.units
theorem or_eq (A : At X W k n) : OpR X (compareOp .Eq) (r2 k eqD) := by
  intro pins s σ H x y v u Q I rx ry h
  obtain ⟨r, m, a, b, hr, ha, hb, q⟩ := h
  unfold eqD at q
  split at q
  · obtain rfl : x = _ := ha
    obtain rfl : y = _ := hb
    refine op_eq pins s σ H _ _ v u Q I rx ry ⟨rfl, ?_⟩
    rw [int_eq]
    exact Ok.pure q hr rfl
  · obtain rfl : x = _ := ha
    obtain rfl : y = _ := hb
    refine op_eq pins s σ H _ _ v u Q I rx ry ⟨rfl, ?_⟩
    rw [tx_eq]
    exact Ok.pure q hr rfl
  · obtain rfl : x = _ := ha
    obtain rfl : y = _ := hb
    refine op_eq pins s σ H _ _ v u Q I rx ry ⟨rfl, ?_⟩
    rw [bl_eq]
    exact Ok.pure q hr rfl
  · split at q
    · rename_i p p2 e1 e2
      split at q
      · rename_i hs
        rw [Bool.and_eq_true] at hs
        exact op_eqD (hu64 A) pins s σ H x y v u Q I rx ry ⟨p, p2, A.kk ▸ (toPy_ok hr pyF).1 _ _ _ ha e1, A.kk ▸ (toPy_ok hr pyF).1 _ _ _ hb e2, hs.1, hs.2, Ok.pure q hr rfl⟩
      · exact q.elim
    · split at q
      · rename_i hsm
        exact eq_same I A.kk.symm hr (hu64 A) hsm ha hb rx ry ⟨.bl _, H, I, rfl, Ok.pure q hr rfl⟩
      · exact q.elim
theorem or_ne (A : At X W k n) : OpR X (compareOp .NotEq) (r2 k neD) := by
  intro pins s σ H x y v u Q I rx ry h
  obtain ⟨r, m, a, b, hr, ha, hb, q⟩ := h
  unfold neD eqD at q
  split at q
  · obtain rfl : x = _ := ha
    obtain rfl : y = _ := hb
    refine op_ne pins s σ H _ _ v u Q I rx ry ⟨rfl, ?_⟩
    rw [int_eq]
    exact Ok.pure q hr rfl
  · obtain rfl : x = _ := ha
    obtain rfl : y = _ := hb
    refine op_ne pins s σ H _ _ v u Q I rx ry ⟨rfl, ?_⟩
    rw [tx_eq]
    exact Ok.pure q hr rfl
  · obtain rfl : x = _ := ha
    obtain rfl : y = _ := hb
    refine op_ne pins s σ H _ _ v u Q I rx ry ⟨rfl, ?_⟩
    rw [bl_eq]
    exact Ok.pure q hr rfl
  · split at q
    · rename_i p p2 e1 e2
      split at q
      · rename_i hs
        rw [Bool.and_eq_true] at hs
        exact op_neD (hu64 A) pins s σ H x y v u Q I rx ry ⟨p, p2, A.kk ▸ (toPy_ok hr pyF).1 _ _ _ ha e1, A.kk ▸ (toPy_ok hr pyF).1 _ _ _ hb e2, hs.1, hs.2, Ok.pure q hr rfl⟩
      · exact q.elim
    · split at q
      · rename_i hsm
        exact ne_same I A.kk.symm hr (hu64 A) hsm ha hb rx ry ⟨.bl _, H, I, rfl, Ok.pure q hr rfl⟩
      · exact q.elim
theorem or_lt : OpR X (compareOp .Lt) (r2 k ltD) := by
  intro pins s σ H x y v u Q I rx ry h
  obtain ⟨r, m, a, b, hr, ha, hb, q⟩ := h
  unfold ltD at q
  split at q
  · exact op_lt pins s σ H x y v u Q I rx ry ⟨_, _, ha, hb, Ok.pure q hr rfl⟩
  · exact op_lt_str pins s σ H x y v u Q I rx ry ⟨_, _, ha, hb, Ok.pure q hr rfl⟩
  · exact q.elim
theorem or_le : OpR X (compareOp .LtE) (r2 k leD) := by
  intro pins s σ H x y v u Q I rx ry h
  obtain ⟨r, m, a, b, hr, ha, hb, q⟩ := h
  unfold leD at q
  split at q
  · exact op_le pins s σ H x y v u Q I rx ry ⟨_, _, ha, hb, Ok.pure q hr rfl⟩
  · exact op_le_str pins s σ H x y v u Q I rx ry ⟨_, _, ha, hb, Ok.pure q hr rfl⟩
  · exact q.elim
theorem or_gt : OpR X (compareOp .Gt) (r2 k gtD) := by
  intro pins s σ H x y v u Q I rx ry h
  obtain ⟨r, m, a, b, hr, ha, hb, q⟩ := h
  unfold gtD ltD at q
  split at q
  · exact op_gt pins s σ H x y v u Q I rx ry ⟨_, _, ha, hb, Ok.pure q hr rfl⟩
  · exact op_gt_str pins s σ H x y v u Q I rx ry ⟨_, _, ha, hb, Ok.pure q hr rfl⟩
  · exact q.elim
theorem or_ge : OpR X (compareOp .GtE) (r2 k geD) := by
  intro pins s σ H x y v u Q I rx ry h
  obtain ⟨r, m, a, b, hr, ha, hb, q⟩ := h
  unfold geD leD at q
  split at q
  · exact op_ge pins s σ H x y v u Q I rx ry ⟨_, _, ha, hb, Ok.pure q hr rfl⟩
  · exact op_ge_str pins s σ H x y v u Q I rx ry ⟨_, _, ha, hb, Ok.pure q hr rfl⟩
  · exact q.elim
theorem isN_rv {r : List Addr} {H : Hp} {d : D} {v : V} (h : RV k r H d v) (hc : ∀ n, d ≠ .cst n) : decide (v = .non) = (match d with | .non => true | _ => false) := by
  cases d with
  | non =>
    obtain rfl : v = _ := h
    rfl
  | bl b =>
    obtain rfl : v = _ := h
    rfl
  | int b =>
    obtain rfl : v = _ := h
    rfl
  | str b =>
    obtain rfl : v = _ := h
    rfl
  | tup b =>
    obtain ⟨_, _, rfl, _⟩ := h
    rfl
  | frl b =>
    obtain ⟨_, _, rfl, _⟩ := h
    rfl
  | ref b =>
    obtain ⟨_, rfl, _⟩ := h
    rfl
  | cst b => exact absurd rfl (hc b)
end
end Mn
end

section
/-! Mini, part I: is, in, subscripts, slices, stores, dicts. -/
namespace Mn
open PySem PySem.Spec PyProof.Rows L2

/-- a is None, a is True .. -/
def isD : D → D → MH → Opt D
  | .cst _, _, _ => none
  | .bl a, .bl b, m => some (.bl (decide (a = b)), m)
  | .non, .non, m => some (.bl true, m)
  | a, .non, m => some (.bl false, m)
  | _, _, _ => none
def notD (a b : D) (m : MH) : Opt D := notO (isD a b m)
/-- a text times a number -/
def mulS : D → D → MH → Opt D
  | .int i, .int j, m => if mulOk i j then some (.int (i * j), m) else none
  | .str x, .int n, m => if -1000 ≤ n ∧ n ≤ 1000 ∧ x.length ≤ 100 then some (.str (List.replicate n.toNat x).flatten, m) else none
  | .ref a, .int n, m => match m[a]? with
    | some (.lst xs) => if -1000 ≤ n ∧ n ≤ 1000 ∧ xs.length ≤ 100 then some (.ref m.length, m ++ [.lst (List.replicate n.toNat xs).flatten]) else none
    | _ => none
  | .tup xs, .int n, m => if xs ≠ [] ∧ 2 ≤ n ∧ n ≤ 1000 ∧ xs.length ≤ 1000 then some (.tup (List.replicate n.toNat xs).flatten, m) else none
  | _, _, _ => none
/-- flat values -/
def flatD : D → Bool
  | .non => true
  | .bl _ => true
  | .int _ => true
  | .str _ => true
  | _ => false
def eqF : D → D → Bool
  | .non, .non => true
  | .bl a, .bl b => a == b
  | .bl a, .int b => (if a then 1 else 0) == b
  | .int a, .bl b => a == (if b then 1 else 0)
  | .int a, .int b => a == b
  | .str a, .str b => a == b
  | _, _ => false
def subTx (x y : Tx) : Bool := !(Builtin.Str.occurrences (tx y) (tx x) 0 (tx y).length 1).isEmpty
def putKD (kvs : List (DK × D)) (j : DK) (v : D) : List (DK × D) := if (kvs.any fun kv => decide (kv.1 = j)) = true then kvs.map (fun kv => if kv.1 = j then (kv.1, v) else kv) else kvs ++ [(j, v)]
def inD (a b : D) (m : MH) : Opt D := match b with
  | .str y => match a with
    | .str x => some (.bl (match x with | [c] => decide (c ∈ y) | _ => subTx x y), m)
    | _ => none
  | .ref n => match m[n]? with
    | some (.dct kvs) => match keyOf a with
      | some j => some (.bl (findK kvs j).isSome, m)
      | none => none
    | some (.lst xs) => if flatD a && xs.all flatD then some (.bl (xs.any fun z => eqF z a), m) else
      match toPy m pyF a, toPys m pyF xs with
      | some p, some ps => if SeqAt.shaped p && SeqAt.shaped (.list ps) then some (.bl (ps.any fun z => PyData.eqv z p), m) else none
      | _, _ => none
    | _ => none
  | .tup xs => if flatD a && xs.all flatD then some (.bl (xs.any fun z => eqF z a), m) else none
  | .frl xs => if flatD a && xs.all flatD then some (.bl (xs.any fun z => eqF z a), m) else none
  | _ => none
def notInD (a b : D) (m : MH) : Opt D := notO (inD a b m)

section
variable {X : Cx} {W : WX} {k : Kx} {n : Nat}
theorem notN_rv {r : List Addr} {H : Hp} {d : D} {v : V} (h : RV k r H d v) (hc : ∀ n, d ≠ .cst n) (hn : d ≠ .non) : decide (v = .non) = false := by
  cases d with
  | non => exact absurd rfl hn
  | bl b =>
    obtain rfl : v = _ := h
    rfl
  | int b =>
    obtain rfl : v = _ := h
    rfl
  | str b =>
    obtain rfl : v = _ := h
    rfl
  | tup b =>
    obtain ⟨_, _, rfl, _⟩ := h
    rfl
  | frl b =>
    obtain ⟨_, _, rfl, _⟩ := h
    rfl
  | ref b =>
    obtain ⟨_, rfl, _⟩ := h
    rfl
  | cst b => exact absurd rfl (hc b)
theorem or_is : OpR X (compareOp .Is) (r2 k isD) := by
  intro pins s σ H x y v u Q I rx ry h
  obtain ⟨r, m, a, b, hr, ha, hb, q⟩ := h
  unfold isD at q
  split at q
  · exact q.elim
  · obtain rfl : x = _ := ha
    obtain rfl : y = _ := hb
    exact op_isBl pins s σ H _ _ v u Q I rx ry ⟨_, _, rfl, rfl, Ok.pure q hr rfl⟩
  · obtain rfl : x = _ := ha
    obtain rfl : y = _ := hb
    exact op_isN pins s σ H _ _ v u Q I rx ry ⟨rfl, Ok.pure q hr rfl⟩
  · rename_i h1 h3
    obtain rfl : y = _ := hb
    refine op_isN pins s σ H _ _ v u Q I rx ry ⟨rfl, ?_⟩
    rw [notN_rv ha (fun j z => h1 j z) h3]
    exact Ok.pure q hr rfl
  · exact q.elim
theorem or_isnot : OpR X (compareOp .IsNot) (r2 k notD) := by
  intro pins s σ H x y v u Q I rx ry h
  obtain ⟨r, m, a, b, hr, ha, hb, q⟩ := h
  unfold notD isD at q
  split at q
  · exact q.elim
  · obtain rfl : x = _ := ha
    obtain rfl : y = _ := hb
    exact op_notBl pins s σ H _ _ v u Q I rx ry ⟨_, _, rfl, rfl, Ok.pure q hr rfl⟩
  · obtain rfl : x = _ := ha
    obtain rfl : y = _ := hb
    exact op_notN pins s σ H _ _ v u Q I rx ry ⟨rfl, Ok.pure q hr rfl⟩
  · rename_i h1 h3
    obtain rfl : y = _ := hb
    refine op_notN pins s σ H _ _ v u Q I rx ry ⟨rfl, ?_⟩
    rw [notN_rv ha (fun j z => h1 j z) h3]
    exact Ok.pure q hr rfl
  · exact q.elim
theorem rep_flat (x : Tx) : ∀ (j : Nat) (acc : Array Nat), ((List.replicate j x.toArray).foldl (· ++ ·) acc) = acc ++ (List.replicate j x).flatten.toArray
  | 0, acc => by simp
  | j + 1, acc => by
    rw [List.replicate_succ, List.foldl_cons, rep_flat x j, List.replicate_succ, List.flatten_cons]
    simp
theorem mul_tx (x : Tx) (n : Int) : Txt.mul (tx x) n = tx (List.replicate n.toNat x).flatten := by
  unfold Txt.mul
  split
  · rename_i h
    have e : n.toNat = 0 := by omega
    rw [e]
    rfl
  · split
    · rename_i h1 h2
      rw [Bool.or_eq_true, beq_iff_eq, beq_iff_eq] at h2
      rcases h2 with h2 | h2
      · subst h2
        show tx x = tx (List.replicate 1 x).flatten
        rw [List.replicate_one, List.flatten_singleton]
      · have e : x = [] := List.eq_nil_of_length_eq_zero h2
        subst e
        rw [List.flatten_replicate_nil]
    · show Str.mk ((List.replicate n.toNat x.toArray).foldl (· ++ ·) #[]) = _
      rw [rep_flat]
      simp [tx]
theorem or_mulS (A : At X W k n) : OpR X (binaryOp .Mult) (r2 k mulS) := by
  intro pins s σ H x y v u Q I rx ry h
  obtain ⟨r, m, a, b, hr, ha, hb, q⟩ := h
  unfold mulS at q
  split at q
  · rename_i i j
    split at q
    · rename_i hl
      refine op_mul pins s σ H x y v u Q I rx ry ⟨_, _, ha, hb, ?_, Ok.pure q hr rfl⟩
      unfold mulOk at hl
      rw [Bool.or_eq_true, decide_eq_true_eq, decide_eq_true_eq] at hl
      unfold CMul
      omega
    · exact q.elim
  · rename_i x j
    split at q
    · rename_i hl
      obtain ⟨h1, h2, h3⟩ := hl
      obtain rfl : _ = V.str (tx x) := ha
      obtain rfl : y = _ := hb
      obtain ⟨t, rfl⟩ := rx
      obtain ⟨t2, rfl⟩ := ry
      refine SB.mul ⟨?_, fun _ _ => ?_, fun _ _ => ?_⟩ fun t' kk => ?_
      · rw [decide_eq_false (by omega), decide_eq_false (by omega)]
        rfl
      · rename_i g1 g2
        have g3 : (0 : Int) < j := by omega
        have g4 : ((tx x).length : Int) ≤ 100 := by
          rw [len_tx]
          omega
        have g5 : (100 : Int) ≤ (2 ^ 63 - 1) / j := by
          refine Int.le_ediv_of_mul_le g3 ?_
          omega
        omega
      · have g4 : (tx x).length * j.toNat ≤ 100 * 1000 := Nat.mul_le_mul (by rw [len_tx]; exact h3) (by omega)
        unfold Builtin.Str.tooLong
        exact decide_eq_false fun z => absurd (Nat.le_trans g4 (by decide : 100 * 1000 ≤ sizeLine)) (Nat.not_le_of_gt z)
      · rw [mul_tx]
        exact ⟨.str _, H, I.tok _, ⟨_, rfl⟩, Ok.pure q hr rfl⟩
    · exact q.elim
  · split at q
    · rename_i i j xs hx
      split at q
      · rename_i hl
        obtain ⟨a, rfl, ea⟩ := ha
        obtain ⟨ys, hy, hv⟩ := hr.ob _ _ a hx ea
        obtain rfl : y = _ := hb
        refine op_rep pins s σ H _ _ v u Q I rx ry ⟨a, _, ys, rfl, rfl, hy, by omega, by omega, ?_, new_lst q hr ?_⟩
        · rw [← hv.length]
          exact Nat.le_trans (Nat.mul_le_mul hl.2.2 (by omega : Int.toNat _ ≤ 1000)) (by decide)
        · have go : ∀ j : Nat, RVs k r H (List.replicate j xs).flatten (List.replicate j ys).flatten := by
            intro j
            induction j with
            | zero => exact rfl
            | succ j ih =>
              rw [List.replicate_succ, List.replicate_succ, List.flatten_cons, List.flatten_cons]
              exact hv.app ih
          exact go _
      · exact q.elim
    · exact q.elim
  · split at q
    · rename_i xs j hl
      obtain ⟨a, ys, rfl, ht, hv⟩ := ha
      obtain rfl : y = _ := hb
      refine op_repT pins s σ H _ _ v u Q I rx ry ⟨a, j, ys, rfl, rfl, A.kk ▸ ht.sq, ?_, hl.2.1, hl.2.2.1, by rw [← hv.length]; exact hl.2.2.2, new_tup q hr ?_⟩
      · intro e
        subst e
        have := hv.length
        exact hl.1 (List.eq_nil_of_length_eq_zero this)
      · have go : ∀ j : Nat, RVs k r H (List.replicate j xs).flatten (List.replicate j ys).flatten := by
          intro j
          induction j with
          | zero => exact rfl
          | succ j ih =>
            rw [List.replicate_succ, List.replicate_succ, List.flatten_cons, List.flatten_cons]
            exact hv.app ih
        exact go _
    · exact q.elim
  · exact q.elim
theorem flat_rv {r : List Addr} {H : Hp} {d : D} {v : V} (h : RV k r H d v) (f : flatD d = true) : flatV v = true := by
  cases d with
  | non =>
    obtain rfl : v = _ := h
    rfl
  | bl b =>
    obtain rfl : v = _ := h
    rfl
  | int b =>
    obtain rfl : v = _ := h
    rfl
  | str b =>
    obtain rfl : v = _ := h
    rfl
  | _ => cases f
theorem tx_beq (a b : Tx) : (tx a == tx b) = (a == b) := by
  by_cases h : a = b
  · rw [h, beq_self_eq_true, beq_self_eq_true]
  · rw [beq_eq_false_iff_ne.mpr h, beq_eq_false_iff_ne.mpr fun e => h (tx_inj e)]
theorem eqF_rv {r : List Addr} {H : Hp} {d e : D} {v u : V} (h : RV k r H d v) (h2 : RV k r H e u) (f : flatD d = true) (f2 : flatD e = true) : eqV v u = eqF d e := by
  cases d with
  | non =>
    obtain rfl : v = _ := h
    cases e <;> first | (obtain rfl : u = _ := h2; rfl) | cases f2
  | bl b =>
    obtain rfl : v = _ := h
    cases e <;> first | (obtain rfl : u = _ := h2; rfl) | cases f2
  | int b =>
    obtain rfl : v = _ := h
    cases e <;> first | (obtain rfl : u = _ := h2; rfl) | cases f2
  | str b =>
    obtain rfl : v = _ := h
    cases e with
    | str c =>
      obtain rfl : u = _ := h2
      exact tx_beq _ _
    | non =>
      obtain rfl : u = _ := h2
      rfl
    | bl c =>
      obtain rfl : u = _ := h2
      rfl
    | int c =>
      obtain rfl : u = _ := h2
      rfl
    | _ => cases f2
  | _ => cases f
theorem allF_rv {r : List Addr} {H : Hp} : ∀ {xs : List D} {ys : List V}, RVs k r H xs ys → xs.all flatD = true → ys.all flatV = true
  | [], _, h, _ => by
    obtain rfl : _ = [] := h
    rfl
  | x :: xs, _, ⟨y, t, e, h1, h2⟩, f => by
    subst e
    rw [List.all_cons, Bool.and_eq_true] at f
    rw [List.all_cons, flat_rv h1 f.1, allF_rv h2 f.2]
    rfl
theorem inF_rv {r : List Addr} {H : Hp} {a : D} {v : V} (ha : RV k r H a v) (fa : flatD a = true) : ∀ {xs : List D} {ys : List V}, RVs k r H xs ys → xs.all flatD = true → inV v ys = xs.any fun z => eqF z a
  | [], _, h, _ => by
    obtain rfl : _ = [] := h
    rfl
  | x :: xs, _, ⟨y, t, e, h1, h2⟩, f => by
    subst e
    rw [List.all_cons, Bool.and_eq_true] at f
    have ih := inF_rv ha fa h2 f.2
    unfold inV at ih ⊢
    rw [List.any_cons, List.any_cons, ih, eqF_rv h1 ha f.1 fa]
theorem key_rv {r : List Addr} {H : Hp} {d : D} {v : V} {j : DK} (h : RV k r H d v) (e : keyOf d = some j) : v = kV (dkK j) := by
  cases d with
  | int i =>
    cases e
    exact h
  | str x =>
    cases e
    exact h
  | _ => cases e
theorem dk_dec (a b : DK) : decide (dkK a = dkK b) = decide (a = b) := by
  by_cases h : a = b
  · rw [h, decide_eq_true rfl, decide_eq_true rfl]
  · rw [decide_eq_false h, decide_eq_false fun e => h (dkK_inj e)]
theorem put_rv {r : List Addr} {H : Hp} {j : DK} {d : D} {v : V} (hv : RV k r H d v) {kvs : List (DK × D)} {ys : List (Key × V)} (h : RKs k r H kvs ys) : RKs k r H (putKD kvs j d) (putK ys (dkK j) v) := by
  have hany : ∀ {kvs : List (DK × D)} {ys : List (Key × V)}, RKs k r H kvs ys → (ys.any fun kv => decide (kv.1 = dkK j)) = (kvs.any fun kv => decide (kv.1 = j)) := by
    intro kvs
    induction kvs with
    | nil =>
      intro ys h
      obtain rfl : ys = [] := h
      rfl
    | cons p kvs ih =>
      rintro ys ⟨y, t, e, h1, h2⟩
      subst e
      rw [List.any_cons, List.any_cons, ih h2, dk_dec]
  have hmap : ∀ {kvs : List (DK × D)} {ys : List (Key × V)}, RKs k r H kvs ys → RKs k r H (kvs.map fun kv => if kv.1 = j then (kv.1, d) else kv) (ys.map fun kv => if kv.1 = dkK j then (kv.1, v) else kv) := by
    intro kvs
    induction kvs with
    | nil =>
      intro ys h
      obtain rfl : ys = [] := h
      rfl
    | cons p kvs ih =>
      rintro ys ⟨y, t, e, h1, h2⟩
      subst e
      rw [List.map_cons, List.map_cons]
      by_cases hj : p.1 = j
      · rw [if_pos hj, if_pos (congrArg dkK hj)]
        exact ⟨v, _, rfl, hv, ih h2⟩
      · rw [if_neg hj, if_neg fun z => hj (dkK_inj z)]
        exact ⟨y, _, rfl, h1, ih h2⟩
  have happ : ∀ {kvs : List (DK × D)} {ys : List (Key × V)}, RKs k r H kvs ys → RKs k r H (kvs ++ [(j, d)]) (ys ++ [(dkK j, v)]) := by
    intro kvs
    induction kvs with
    | nil =>
      intro ys h
      obtain rfl : ys = [] := h
      exact ⟨v, [], rfl, hv, rfl⟩
    | cons p kvs ih =>
      rintro ys ⟨y, t, e, h1, h2⟩
      subst e
      exact ⟨y, _, rfl, h1, ih h2⟩
  unfold putKD putK
  rw [hany h]
  split
  · exact hmap h
  · exact happ h
theorem hu1 (A : At X W k n) : X.A.units + 1 < cLine := hu_of A.hr
theorem hu65 (A : At X W k n) : X.A.units + 65 < cLine := by
  have := A.hr.un
  omega

/-! ### in, not in -/
theorem op_in_dict (A : At X W k n) : OpR X (compareOp .In) (fun y x H Q => ∃ a o, x = .ref a ∧ DGet H a y o ∧ Q (.bl o.isSome) H) := by
  intro pins s σ H y x u v Q I ry rx ⟨a, o, e, g, q⟩
  subst e
  obtain rfl : v = Value.ref a := rx
  exact d_in (hu1 A) I g ry fun s3 I3 => ⟨.bl o.isSome, H, I3, rfl, q⟩
theorem op_notin_dict (A : At X W k n) : OpR X (compareOp .NotIn) (fun y x H Q => ∃ a o, x = .ref a ∧ DGet H a y o ∧ Q (.bl (!o.isSome)) H) := by
  intro pins s σ H y x u v Q I ry rx ⟨a, o, e, g, q⟩
  subst e
  obtain rfl : v = Value.ref a := rx
  exact d_notIn (hu1 A) I g ry fun s3 I3 => ⟨.bl (!o.isSome), H, I3, rfl, q⟩
theorem dict_get {r : List Addr} {H : Hp} {m : MH} {i : Nat} {a : Addr} {kvs : List (DK × D)} {d : D} {y : V} {j : DK} (hr : HR k r m H) (hx : m[i]? = some (.dct kvs)) (ea : r[i]? = some a) (hd : RV k r H d y) (hj : keyOf d = some j) :
    ∃ o, DGet H a y o ∧ o.isSome = (findK kvs j).isSome ∧ ∀ e, findK kvs j = some e → ∃ v, o = some v ∧ RV k r H e v := by
  obtain ⟨ys, hy, hv⟩ := hr.ob _ _ a hx ea
  have e := key_rv hd hj
  subst e
  refine ⟨_, DGet.k hy, ?_, fun e he => ?_⟩
  · rcases val_rv j hv with ⟨h1, h2⟩ | ⟨d, v, h1, h2, _⟩
    · rw [h1, h2]
      rfl
    · rw [h1, h2]
      rfl
  · rcases val_rv j hv with ⟨h1, h2⟩ | ⟨d, v, h1, h2, h3⟩
    · rw [h1] at he
      cases he
    · rw [h1] at he
      cases he
      exact ⟨v, h2, h3⟩
theorem in_one {c : Nat} : tx [c] = ⟨#[c]⟩ := rfl
theorem or_in (A : At X W k n) : OpR X (compareOp .In) (r2 k inD) := by
  intro pins s σ H x y v u Q I rx ry h
  obtain ⟨r, m, a, b, hr, ha, hb, q⟩ := h
  unfold inD at q
  split at q
  · split at q
    · rename_i y x
      obtain rfl : _ = _ := ha
      obtain rfl : _ = _ := hb
      split at q
      · exact op_in_sign pins s σ H _ _ v u Q I rx ry ⟨_, _, rfl, rfl, Ok.pure q hr rfl⟩
      · exact op_in_str pins s σ H _ _ v u Q I rx ry ⟨_, _, rfl, rfl, Ok.pure q hr rfl⟩
    · exact q.elim
  · obtain ⟨a2, rfl, ea⟩ := hb
    split at q
    · rename_i kvs hx
      split at q
      · rename_i j hj
        obtain ⟨o, g, e1, _⟩ := dict_get hr hx ea ha hj
        refine op_in_dict A pins s σ H _ _ v u Q I rx ry ⟨a2, o, rfl, g, ?_⟩
        rw [e1]
        exact Ok.pure q hr rfl
      · exact q.elim
    · rename_i xs hx
      obtain ⟨ys, hy, hv⟩ := hr.ob _ _ a2 hx ea
      split at q
      · rename_i hf
        rw [Bool.and_eq_true] at hf
        refine op_in_seq pins s σ H _ _ v u Q I rx ry ⟨a2, ys, rfl, .inl (.of hy), flat_rv ha hf.1, allF_rv hv hf.2, ?_⟩
        rw [if_neg Bool.false_ne_true, inF_rv ha hf.1 hv hf.2]
        exact Ok.pure q hr rfl
      · split at q
        · rename_i p ps e1 e2
          split at q
          · rename_i hs
            rw [Bool.and_eq_true] at hs
            exact op_inD (hu65 A) pins s σ H _ _ v u Q I rx ry ⟨p, ps, A.kk ▸ (toPy_ok hr pyF).1 _ _ _ ha e1, .lst (.of hy) (A.kk ▸ (toPy_ok hr pyF).2 _ _ _ hv e2), hs.1, hs.2, Ok.pure q hr rfl⟩
          · exact q.elim
        · exact q.elim
    · exact q.elim
  · obtain ⟨a2, ys, rfl, ht, hv⟩ := hb
    split at q
    · rename_i hf
      rw [Bool.and_eq_true] at hf
      refine op_in_seq pins s σ H _ _ v u Q I rx ry ⟨a2, ys, rfl, .inr (A.kk ▸ ht.sq), flat_rv ha hf.1, allF_rv hv hf.2, ?_⟩
      rw [if_neg Bool.false_ne_true, inF_rv ha hf.1 hv hf.2]
      exact Ok.pure q hr rfl
    · exact q.elim
  · obtain ⟨a2, ys, rfl, ht, hv⟩ := hb
    split at q
    · rename_i hf
      rw [Bool.and_eq_true] at hf
      refine op_in_seq pins s σ H _ _ v u Q I rx ry ⟨a2, ys, rfl, .inl (A.kk ▸ ht.sq), flat_rv ha hf.1, allF_rv hv hf.2, ?_⟩
      rw [if_neg Bool.false_ne_true, inF_rv ha hf.1 hv hf.2]
      exact Ok.pure q hr rfl
    · exact q.elim
  · exact q.elim
theorem or_notin (A : At X W k n) : OpR X (compareOp .NotIn) (r2 k notInD) := by
  intro pins s σ H x y v u Q I rx ry h
  obtain ⟨r, m, a, b, hr, ha, hb, q⟩ := h
  unfold notInD inD at q
  split at q
  · split at q
    · rename_i y x
      obtain rfl : _ = _ := ha
      obtain rfl : _ = _ := hb
      split at q
      · exact op_notIn_sign pins s σ H _ _ v u Q I rx ry ⟨_, _, rfl, rfl, Ok.pure q hr rfl⟩
      · exact op_notin_str pins s σ H _ _ v u Q I rx ry ⟨_, _, rfl, rfl, Ok.pure q hr rfl⟩
    · exact q.elim
  · obtain ⟨a2, rfl, ea⟩ := hb
    split at q
    · rename_i kvs hx
      split at q
      · rename_i j hj
        obtain ⟨o, g, e1, _⟩ := dict_get hr hx ea ha hj
        refine op_notin_dict A pins s σ H _ _ v u Q I rx ry ⟨a2, o, rfl, g, ?_⟩
        rw [e1]
        exact Ok.pure q hr rfl
      · exact q.elim
    · rename_i xs hx
      obtain ⟨ys, hy, hv⟩ := hr.ob _ _ a2 hx ea
      split at q
      · rename_i hf
        rw [Bool.and_eq_true] at hf
        refine op_notIn_seq pins s σ H _ _ v u Q I rx ry ⟨a2, ys, rfl, .inl (.of hy), flat_rv ha hf.1, allF_rv hv hf.2, ?_⟩
        rw [if_pos rfl, inF_rv ha hf.1 hv hf.2]
        exact Ok.pure q hr rfl
      · split at q
        · rename_i p ps e1 e2
          split at q
          · rename_i hs
            rw [Bool.and_eq_true] at hs
            exact op_notInD (hu65 A) pins s σ H _ _ v u Q I rx ry ⟨p, ps, A.kk ▸ (toPy_ok hr pyF).1 _ _ _ ha e1, .lst (.of hy) (A.kk ▸ (toPy_ok hr pyF).2 _ _ _ hv e2), hs.1, hs.2, Ok.pure q hr rfl⟩
          · exact q.elim
        · exact q.elim
    · exact q.elim
  · obtain ⟨a2, ys, rfl, ht, hv⟩ := hb
    split at q
    · rename_i hf
      rw [Bool.and_eq_true] at hf
      refine op_notIn_seq pins s σ H _ _ v u Q I rx ry ⟨a2, ys, rfl, .inr (A.kk ▸ ht.sq), flat_rv ha hf.1, allF_rv hv hf.2, ?_⟩
      rw [if_pos rfl, inF_rv ha hf.1 hv hf.2]
      exact Ok.pure q hr rfl
    · exact q.elim
  · obtain ⟨a2, ys, rfl, ht, hv⟩ := hb
    split at q
    · rename_i hf
      rw [Bool.and_eq_true] at hf
      refine op_notIn_seq pins s σ H _ _ v u Q I rx ry ⟨a2, ys, rfl, .inl (A.kk ▸ ht.sq), flat_rv ha hf.1, allF_rv hv hf.2, ?_⟩
      rw [if_pos rfl, inF_rv ha hf.1 hv hf.2]
      exact Ok.pure q hr rfl
    · exact q.elim
  · exact q.elim
end

/-! ### subscripts -/
def ixTx (x : Tx) (i : Int) : Option Nat := atI x i
def ixD : D → D → MH → Opt D
  | .tup xs, .int i, m => (atI xs i).map fun d => (d, m)
  | .frl xs, .int i, m => (atI xs i).map fun d => (d, m)
  | .str x, .int i, m => if x.length ≤ 100000 then (atI x i).map fun c => (.str [c], m) else none
  | .ref a, j, m => match m[a]? with
    | some (.lst xs) => match j with
      | .int i => (atI xs i).map fun d => (d, m)
      | _ => none
    | some (.dct kvs) => (keyOf j).bind fun j => (findK kvs j).map fun d => (d, m)
    | _ => none
  | _, _, _ => none
section
variable {X : Cx} {W : WX} {k : Kx} {n : Nat} {a b : Expr} {ga gb : Fr → MH → Out D} {pos : Pos}
theorem at_rv {r : List Addr} {H : Hp} {xs : List D} {ys : List V} {i : Int} {d : D} (h : RVs k r H xs ys) (e : atI xs i = some d) : ∃ v, atI ys i = some v ∧ RV k r H d v := by
  unfold atI at e ⊢
  rw [← h.length]
  cases hj : ixN xs.length i with
  | none =>
    rw [hj] at e
    cases e
  | some j =>
    rw [hj] at e
    exact h.get e
theorem ix_dict (A : At X W k n) : IxR X (fun x y H Q => ∃ a v, x = .ref a ∧ DGet H a y (some v) ∧ Q v H) := by
  intro value slice pins s σ H x y v u Q I rx ry h hs
  obtain ⟨a, z, rfl, g, q⟩ := h
  obtain rfl : v = Value.ref a := rx
  exact tail_any (dict_typeIs I g) PySem.F.slot_dict_getitem.lookup (d_getItem (hu1 A) I g ry fun w' s3 I3 rw' => ⟨z, H, I3, rw', q⟩) hs
theorem ir_ix (A : At X W k n) : IxR X (r2 k ixD) := by
  intro value slice pins s σ H x y v u Q I rx ry h hs
  obtain ⟨r, m, a, b, hr, ha, hb, q⟩ := h
  unfold ixD at q
  split at q
  · rename_i xs i
    cases e : atI xs i with
    | none =>
      rw [e] at q
      exact q.elim
    | some d =>
      rw [e] at q
      obtain ⟨a2, ys, rfl, ht, hv⟩ := ha
      obtain ⟨z, e2, rz⟩ := at_rv hv e
      exact ix_tup value slice pins s σ H _ _ v u Q I rx ry ⟨a2, ys, i, z, rfl, hb, A.kk ▸ ht.sq, e2, Ok.pure q hr rz⟩ hs
  · rename_i xs i
    cases e : atI xs i with
    | none =>
      rw [e] at q
      exact q.elim
    | some d =>
      rw [e] at q
      obtain ⟨a2, ys, rfl, ht, hv⟩ := ha
      obtain ⟨z, e2, rz⟩ := at_rv hv e
      exact ix_list value slice pins s σ H _ _ v u Q I rx ry ⟨a2, ys, i, z, rfl, hb, A.kk ▸ ht.sq, e2, Ok.pure q hr rz⟩ hs
  · rename_i x i
    split at q
    · rename_i hl
      cases e : atI x i with
      | none =>
        rw [e] at q
        exact q.elim
      | some c =>
        rw [e] at q
        exact ix_str value slice pins s σ H _ _ v u Q I rx ry ⟨tx x, i, c, ha, hb, line5 hl, e, Ok.pure q hr rfl⟩ hs
    · exact q.elim
  · obtain ⟨a2, rfl, ea⟩ := ha
    split at q
    · rename_i xs hx
      obtain ⟨ys, hy, hv⟩ := hr.ob _ _ a2 hx ea
      split at q
      · rename_i i
        cases e : atI xs i with
        | none =>
          rw [e] at q
          exact q.elim
        | some d =>
          rw [e] at q
          obtain ⟨z, e2, rz⟩ := at_rv hv e
          exact ix_list value slice pins s σ H _ _ v u Q I rx ry ⟨a2, ys, i, z, rfl, hb, .of hy, e2, Ok.pure q hr rz⟩ hs
      · exact q.elim
    · rename_i kvs hx
      cases hj : keyOf b with
      | none =>
        rw [hj] at q
        exact q.elim
      | some j =>
        rw [hj] at q
        have q : Ok k (RV k) r H ((findK kvs j).map fun d => (d, m)) Q := q
        cases hf : findK kvs j with
        | none =>
          rw [hf] at q
          exact q.elim
        | some d =>
          rw [hf] at q
          obtain ⟨o, g, _, h3⟩ := dict_get hr hx ea hb hj
          obtain ⟨z, rfl, rz⟩ := h3 d hf
          exact ix_dict A value slice pins s σ H _ _ v u Q I rx ry ⟨a2, z, rfl, g, Ok.pure q hr rz⟩ hs
    · exact q.elim
  · exact q.elim
theorem se_ix (A : At X W k n) (ha : SE X W k a ga) (hb : SE X W k b gb) (hs : PlainIx b := by exact fun _ _ => rfl) : SE X W k (.Subscript a b pos) (gBin ixD ga gb) :=
  ⟨fun pins s σ H Q I h => (pe_ix (ir_ix A) ha hb hs).run pins s σ H Q I (gBin_reads h)⟩

/-! ### slices -/
def cutD {α : Type} (xs : List α) (lo hi : Option Int) : List α := (xs.drop (HT.sIx xs.length 0 lo)).take (HT.sIx xs.length xs.length hi - HT.sIx xs.length 0 lo)
def slD (d : D) (lo hi : Option Int) (m : MH) : Opt D := match d with
  | .tup xs => some (.tup (cutD xs lo hi), m)
  | .frl xs => some (.ref m.length, m ++ [.lst (cutD xs lo hi)])
  | .str x => if x.length ≤ 100000 then some (.str (cutD x lo hi), m) else none
  | .ref a => match m[a]? with
    | some (.lst xs) => some (.ref m.length, m ++ [.lst (cutD xs lo hi)])
    | _ => none
  | _ => none
def gPart (g : Fr → MH → Out D) : Fr → MH → Out (Option Int) := fun f m => (g f m).bind fun d m1 => match d with
  | .int i => .ok (some i) m1
  | _ => .no
def gNoPart : Fr → MH → Out (Option Int) := fun _ m => .ok none m
def gSl (g : Fr → MH → Out D) (gl gh : Fr → MH → Out (Option Int)) : Fr → MH → Out D := fun f m => (g f m).bind fun d m1 => (gl f m1).bind fun lo m2 => (gh f m2).bind fun hi m3 => up (slD d lo hi m3)
def RI : Rel (Option Int) (Option Int) := fun _ _ a b => b = a
def SO' (X : Cx) (W : WX) (k : Kx) (e : Option Expr) (g : Fr → MH → Out (Option Int)) : Prop := PO X e (tM k RI W g)
theorem so_none : SO' X W k none gNoPart := ⟨fun pins s σ H Q I ⟨r, f, m, hf, hr, q⟩ => po_none.run pins s σ H Q I (Fi.pure q hr rfl)⟩
theorem so_some {e : Expr} {g : Fr → MH → Out D} (h : SE X W k e g) : SO' X W k (some e) (gPart g) := by
  refine ⟨fun pins s σ H Q I hq => (po_some h).run pins s σ H Q I ?_⟩
  refine tM_bind (R2 := RI) (h := fun d _ m1 => match d with | .int i => .ok (some i) m1 | _ => .no) hq fun d r f m v H1 hf hr hv q => ?_
  split at q
  · exact ⟨_, hv, Fi.pure q hr rfl⟩
  · exact q.elim
theorem cut_rv {r : List Addr} {H : Hp} {xs : List D} {ys : List V} (h : RVs k r H xs ys) (lo hi : Option Int) : RVs k r H (cutD xs lo hi) (cutV ys lo hi) := by
  unfold cutD cutV
  rw [← h.length]
  exact (h.dropD _).takeD _
def rSl (k : Kx) : V → Option Int → Option Int → Hp → VK → Prop := fun x lo hi H Q => ∃ r m d, HR k r m H ∧ RV k r H d x ∧ Ok k (RV k) r H (slD d lo hi m) Q
theorem sr_sl (A : At X W k n) : SlR X (rSl k) := by
  intro pins s σ H x v vl vu lo hi sl Q I rx hs pl pu h
  obtain ⟨r, m, d, hr, hd, q⟩ := h
  unfold slD at q
  split at q
  · rename_i xs
    obtain ⟨a2, ys, rfl, ht, hv⟩ := hd
    refine sl_tupA pins s σ H _ v vl vu lo hi sl Q I rx hs pl pu ⟨a2, ys, rfl, A.kk ▸ ht.sq, fun e => ?_, fun _ => new_tup q hr (cut_rv hv lo hi)⟩
    have e2 : cutD xs lo hi = xs := by
      unfold cutD
      rw [← hv.length] at e
      rw [e.1, e.2, Nat.sub_zero, List.drop_zero, List.take_length]
    rw [e2] at q
    exact Ok.pure q hr ⟨a2, ys, rfl, ht, hv⟩
  · rename_i xs
    obtain ⟨a2, ys, rfl, ht, hv⟩ := hd
    exact sl_list pins s σ H _ v vl vu lo hi sl Q I rx hs pl pu ⟨a2, ys, rfl, A.kk ▸ ht.sq, new_lst q hr (cut_rv hv lo hi)⟩
  · split at q
    · rename_i x hl
      obtain rfl : _ = _ := hd
      exact sl_str pins s σ H _ v vl vu lo hi sl Q I rx hs pl pu ⟨tx x, rfl, line5 hl, Ok.pure q hr rfl⟩
    · exact q.elim
  · obtain ⟨a2, rfl, ea⟩ := hd
    split at q
    · rename_i xs hx
      obtain ⟨ys, hy, hv⟩ := hr.ob _ _ a2 hx ea
      exact sl_list pins s σ H _ v vl vu lo hi sl Q I rx hs pl pu ⟨a2, ys, rfl, .of hy, new_lst q hr (cut_rv hv lo hi)⟩
    · exact q.elim
  · exact q.elim
theorem se_sl {e : Expr} {lo hi : Option Expr} {p2 : Pos} {g : Fr → MH → Out D} {gl gh : Fr → MH → Out (Option Int)} (A : At X W k n) (he : SE X W k e g) (hl : SO' X W k lo gl) (hh : SO' X W k hi gh) : SE X W k (.Subscript e (.Slice lo hi none p2) pos) (gSl g gl gh) := by
  refine ⟨fun pins s σ H Q I h => (pe_slice (sr_sl A) he hl hh).run pins s σ H Q I ?_⟩
  refine tM_bind (h := fun d f m1 => (gl f m1).bind fun lo m2 => (gh f m2).bind fun hi m3 => up (slD d lo hi m3)) h fun d r f m v H1 hf hr hv q => ?_
  refine tM_of hf hr (Fi.bind (R := RI) q fun lo m2 r2 lo' H2 p kp hr2 e1 q2 => ?_)
  obtain rfl : lo' = lo := e1
  refine tM_of (hf.more p kp) hr2 (Fi.bind (R := RI) q2 fun hi m3 r3 hi' H3 p3 kp3 hr3 e2 q3 => ?_)
  obtain rfl : hi' = hi := e2
  exact ⟨r3, m3, d, hr3, RV.more p3 kp3 d v (RV.more p kp d v hv), Fi.ok q3⟩
end

/-! ### stores -/
def stD : D → D → D → MH → Option MH
  | .ref a, j, v, m => match m[a]? with
    | some (.lst xs) => match j with
      | .int i => (ixN xs.length i).map fun p => m.set a (.lst (xs.set p v))
      | _ => none
    | some (.dct kvs) => if kvs.length < 100000 then (keyOf j).map fun j => m.set a (.dct (putKD kvs j v)) else none
    | _ => none
  | _, _, _, _ => none
def upS (f : Fr) : Option MH → SO
  | some m => .go .nx f m
  | none => .no
/-- o[i] = e -/
def sStore (go gi ge : Fr → MH → Out D) : GS := fun f m => SO.of f (ge f m) fun v m1 => SO.of f (go f m1) fun o m2 => SO.of f (gi f m2) fun i m3 => upS f (stD o i v m3)
def tSt (k : Kx) : TSet := fun o i v H Q => ∃ r m d j e, HR k r m H ∧ RV k r H d o ∧ RV k r H j i ∧ RV k r H e v ∧ ∃ m', stD d j e m = some m' ∧ ∀ H', Keep H H' → HR k r m' H' → Q H'
section
variable {X : Cx} {W : WX} {k : Kx} {n : Nat} {pos : Pos}
theorem pset_dict (A : At X W k n) : PSet X (fun o i v H Q => ∃ a H', o = .ref a ∧ DPut H a i v H' ∧ Q H') := by
  intro pins s σ H o i v ov iv u Q I ro ri rv h
  obtain ⟨a, H', rfl, g, q⟩ := h
  obtain rfl : ov = Value.ref a := ro
  exact d_setItem (hu1 A) I g ri rv fun s4 I4 => ⟨H', I4, q⟩
theorem ps_st (A : At X W k n) : PSet X (tSt k) := by
  intro pins s σ H o i v ov iv u Q I ro ri rv h
  obtain ⟨r, m, d, j, e, hr, hd, hj, he, m', es, q⟩ := h
  unfold stD at es
  split at es
  · obtain ⟨a2, rfl, ea⟩ := hd
    split at es
    · rename_i xs hx
      obtain ⟨ys, hy, hv⟩ := hr.ob _ _ a2 hx ea
      split at es
      · rename_i i
        cases hp : ixN xs.length i with
        | none =>
          rw [hp] at es
          cases es
        | some p =>
          rw [hp] at es
          cases es
          have kp : Keep H (upd H a2 (.lst (ys.set p v))) := .put hy (fun _ z => nomatch z) fun _ _ z => nomatch z
          obtain ⟨w1, w2⟩ := hr.put (o := .lst (ys.set p v)) (u := .lst (xs.set p e)) ea hx ⟨_, upd_same, (RVs.more (List.prefix_refl r) kp xs ys hv).setD p (RV.more (List.prefix_refl r) kp e v he)⟩
          exact set_list pins s σ H _ _ _ ov iv u Q I ro ri rv ⟨a2, ys, i, p, rfl, hj, hy, by rw [← hv.length]; exact hp, q _ w2 w1⟩
      · cases es
    · rename_i kvs hx
      obtain ⟨ys, hy, hv⟩ := hr.ob _ _ a2 hx ea
      split at es
      · rename_i hl
        cases hk : keyOf j with
        | none =>
          rw [hk] at es
          cases es
        | some kk =>
          rw [hk] at es
          cases es
          have e1 := key_rv hj hk
          subst e1
          have kp : Keep H (upd H a2 (.dK (putK ys (dkK kk) v))) := .put hy (fun _ z => nomatch z) fun _ _ z => nomatch z
          obtain ⟨w1, w2⟩ := hr.put (o := .dK (putK ys (dkK kk) v)) (u := .dct (putKD kvs kk e)) ea hx ⟨_, upd_same, put_rv (RV.more (List.prefix_refl r) kp e v he) (RKs.more (List.prefix_refl r) kp kvs ys hv)⟩
          exact pset_dict A pins s σ H _ _ _ ov iv u Q I ro ri rv ⟨a2, _, rfl, DPut.k hy (by rw [← hv.length]; exact line6 hl), q _ w2 w1⟩
      · cases es
    · cases es
  · cases es
/-- h: ps_asg (the value) (pg_sub (the object) (the place) (ps_st A)) -/
theorem ss_store {st : Stmt} {go gi ge : Fr → MH → Out D} (h : PS X st (tAsg (tM k (RV k) W ge) (gSub (tM k (RV k) W go) (tM k (RV k) W gi) (tSt k)))) : SS X W k st (sStore go gi ge) := by
  refine ⟨fun pins s σ H E I hh => h.run pins s σ H E I ?_⟩
  refine tS_bind (h := fun v f m1 => SO.of f (go f m1) fun o m2 => SO.of f (gi f m2) fun i m3 => upS f (stD o i v m3)) hh fun v r f m vv H1 hf hr hv q => ?_
  refine tM_of hf hr (FiS.of (R := RV k) hf q fun o m2 r2 ov H2 p kp hr2 ho q2 => ?_)
  refine tM_of (hf.more p kp) hr2 (FiS.of (R := RV k) (hf.more p kp) q2 fun i m3 r3 iv H3 p3 kp3 hr3 hi q3 => ?_)
  cases e : stD o i v m3 with
  | none =>
    rw [e] at q3
    exact q3.elim
  | some m4 =>
    rw [e] at q3
    exact ⟨r3, m3, o, i, v, hr3, RV.more p3 kp3 o ov ho, hi, RV.more p3 kp3 v vv (RV.more p kp v vv hv), m4, e, fun H' kp' hr' => FiS.nx (FiS.weak (List.prefix_refl r3) kp' q3) hr' (((hf.more p kp).more p3 kp3).more (List.prefix_refl r3) kp')⟩
/-- o[i] op= e -/
def sAugS (F : D → D → MH → Opt D) (go gi ge : Fr → MH → Out D) : GS := fun f m => SO.of f (go f m) fun o m1 => SO.of f (gi f m1) fun i m2 => SO.of f (up (ixD o i m2)) fun x m3 => SO.of f (ge f m3) fun y m4 => SO.of f (up (F x y m4)) fun z m5 => upS f (stD o i z m5)
end
end Mn
end

section
/-! Mini, part J: o[i] op= e, dict displays, methods, built-ins. -/
namespace Mn
open PySem PySem.Spec PyProof.Rows L2

/-! ### o[i] op= e -/
def getD2 : D → D → MH → Opt D
  | .ref a, j, m => match m[a]? with
    | some (.lst xs) => match j with
      | .int i => (atI xs i).map fun d => (d, m)
      | _ => none
    | some (.dct kvs) => (keyOf j).bind fun j => (findK kvs j).map fun d => (d, m)
    | _ => none
  | _, _, _ => none
section
variable {X : Cx} {W : WX} {k : Kx} {n : Nat} {pos : Pos}
theorem pget_list : PGet X (fun x y H Q => ∃ p xs i v, x = .ref p ∧ y = .int i ∧ H p = some (.lst xs) ∧ atI xs i = some v ∧ Q v H) := by
  intro pins s σ H x y v u Q I rx ry h
  obtain ⟨p, xs, i, z, rfl, rfl, hq, he, q⟩ := h
  obtain rfl : v = Value.ref p := rx
  obtain ⟨t, rfl⟩ := ry
  obtain ⟨its, r, pl, hz⟩ := I.list (.of hq)
  obtain ⟨j, h1, h2, h3, h4, h5⟩ := atI_get he
  obtain ⟨w, ew, rw'⟩ := r.get h2
  have hlen := r.length
  have h63 := line63
  have done : EP X pins σ Q w s := ⟨z, H, I, rw', q⟩
  by_cases h0 : 0 ≤ i
  · have hj : i.toNat = j := by
      rw [seqIndex_of h0 h5] at h1
      exact Option.some.inj h1
    exact wpAny_getItem_list pl.isList h0 (by omega) (by rw [hj]; simpa using ew) done
  · have hj : (i + (its.toArray.size : Int)).toNat = j := by
      rw [seqIndex_neg (by omega) h4] at h1
      rw [List.size_toArray, ← hlen]
      exact Option.some.inj h1
    exact wpAny_getItem_list_neg pl.isList (by omega) (by rw [List.size_toArray] <;> omega) (by omega) (by rw [hj]; simpa using ew) done
theorem pget_dict (A : At X W k n) : PGet X (fun x y H Q => ∃ a v, x = .ref a ∧ DGet H a y (some v) ∧ Q v H) := by
  intro pins s σ H x y v u Q I rx ry h
  obtain ⟨a, z, rfl, g, q⟩ := h
  obtain rfl : v = Value.ref a := rx
  exact d_getItem (hu1 A) I g ry fun w' s3 I3 rw' => ⟨z, H, I3, rw', q⟩
theorem pg_get (A : At X W k n) : PGet X (r2 k getD2) := by
  intro pins s σ H x y v u Q I rx ry h
  obtain ⟨r, m, a, b, hr, ha, hb, q⟩ := h
  unfold getD2 at q
  split at q
  · obtain ⟨a2, rfl, ea⟩ := ha
    split at q
    · rename_i xs hx
      obtain ⟨ys, hy, hv⟩ := hr.ob _ _ a2 hx ea
      split at q
      · rename_i i
        cases e : atI xs i with
        | none =>
          rw [e] at q
          exact q.elim
        | some d =>
          rw [e] at q
          obtain ⟨z, e2, rz⟩ := at_rv hv e
          exact pget_list pins s σ H _ _ v u Q I rx ry ⟨a2, ys, i, z, rfl, hb, hy, e2, Ok.pure q hr rz⟩
      · exact q.elim
    · rename_i kvs hx
      cases hj : keyOf b with
      | none =>
        rw [hj] at q
        exact q.elim
      | some j =>
        rw [hj] at q
        have q : Ok k (RV k) r H ((findK kvs j).map fun d => (d, m)) Q := q
        cases hf : findK kvs j with
        | none =>
          rw [hf] at q
          exact q.elim
        | some d =>
          rw [hf] at q
          obtain ⟨o, g, _, h3⟩ := dict_get hr hx ea hb hj
          obtain ⟨z, rfl, rz⟩ := h3 d hf
          exact pget_dict A pins s σ H _ _ v u Q I rx ry ⟨a2, z, rfl, g, Ok.pure q hr rz⟩
    · exact q.elim
  · exact q.elim
def sAug2 (F : D → D → MH → Opt D) (go gi ge : Fr → MH → Out D) : GS := fun f m => SO.of f (go f m) fun o m1 => SO.of f (gi f m1) fun i m2 => SO.of f (up (getD2 o i m2)) fun x m3 => SO.of f (ge f m3) fun y m4 => SO.of f (up (F x y m4)) fun z m5 => upS f (stD o i z m5)
theorem FiS.ok {α β : Type} {R : Rel α β} {r : List Addr} {H : Hp} {f : Fr} {σ : L2.St} {o : Opt α} {h : α → MH → SO} {E : Ends} (hf : RF k r H f σ) (q : FiS k W r H (SO.of f (up o) h) E) {Q' : β → Hp → Prop}
    (hq : ∀ d m1 r1 v H1, r <+: r1 → Keep H H1 → HR k r1 m1 H1 → R r1 H1 d v → FiS k W r1 H1 (h d m1) E → Q' v H1) : Ok k R r H o Q' := Fi.ok (FiS.of hf q hq)
/-- h: ps_augS (the object) (the place) (pg_get A) (the value) (the operator) (ps_st A) -/
theorem ss_augS {st : Stmt} {F : D → D → MH → Opt D} {go gi ge : Fr → MH → Out D} (h : PS X st (tAugS (tM k (RV k) W go) (tM k (RV k) W gi) (tM k (RV k) W ge) (r2 k getD2) (r2 k F) (tSt k))) : SS X W k st (sAug2 F go gi ge) := by
  refine ⟨fun pins s σ H E I hh => h.run pins s σ H E I ?_⟩
  refine tS_bind (R := RV k) (h := fun o f m1 => SO.of f (gi f m1) fun i m2 => SO.of f (up (getD2 o i m2)) fun x m3 => SO.of f (ge f m3) fun y m4 => SO.of f (up (F x y m4)) fun z m5 => upS f (stD o i z m5)) hh fun o r f m ov H1 hf hr ho q => ?_
  refine tM_of hf hr (FiS.of (R := RV k) hf q fun i m2 r2 iv H2 p2 kp2 hr2 hi q2 => ?_)
  have hf2 := hf.more p2 kp2
  refine ⟨r2, m2, o, i, hr2, RV.more p2 kp2 o ov ho, hi, FiS.ok hf2 q2 fun x m3 r3 xv H3 p3 kp3 hr3 hx q3 => ?_⟩
  have hf3 := hf2.more p3 kp3
  refine tM_of hf3 hr3 (FiS.of (R := RV k) hf3 q3 fun y m4 r4 yv H4 p4 kp4 hr4 hy q4 => ?_)
  have hf4 := hf3.more p4 kp4
  refine ⟨r4, m4, x, y, hr4, RV.more p4 kp4 x xv hx, hy, FiS.ok hf4 q4 fun z m5 r5 zv H5 p5 kp5 hr5 hz q5 => ?_⟩
  have hf5 := hf4.more p5 kp5
  cases e : stD o i z m5 with
  | none =>
    rw [e] at q5
    exact q5.elim
  | some m6 =>
    rw [e] at q5
    exact ⟨r5, m5, o, i, z, hr5, RV.more p5 kp5 o ov (RV.more p4 kp4 o ov (RV.more p3 kp3 o ov (RV.more p2 kp2 o ov ho))), RV.more p5 kp5 i iv (RV.more p4 kp4 i iv (RV.more p3 kp3 i iv hi)), hz, m6, e,
      fun H' kp' hr' => FiS.nx (FiS.weak (List.prefix_refl r5) kp' q5) hr' (hf5.more (List.prefix_refl r5) kp')⟩
end

/-! ### dict displays -/
def gPairs : List ((Fr → MH → Out D) × (Fr → MH → Out D)) → Fr → MH → Out (List (DK × D))
  | [], _, m => .ok [] m
  | (gk, gv) :: l, f, m => (gk f m).bind fun x m1 => (gv f m1).bind fun y m2 => (gPairs l f m2).bind fun ps m3 => match keyOf x with
    | some j => .ok ((j, y) :: ps) m3
    | none => .no
/-- the dict stands first, then its pairs are reckoned -/
def gDisp (l : List ((Fr → MH → Out D) × (Fr → MH → Out D))) : Fr → MH → Out D := fun f m => (gPairs l f (m ++ [.dct []])).bind fun ps m1 => match m1[m.length]? with
  | some (.dct []) => if ps.length ≤ 15 then .ok (.ref m.length) (m1.set m.length (.dct (ps.foldl (fun acc kv => putKD acc kv.1 kv.2) []))) else .no
  | _ => .no
section
variable {X : Cx} {W : WX} {k : Kx} {n : Nat} {pos : Pos}
def RPs (k : Kx) : Rel (List (DK × D)) (List (V × V)) := fun r H ds ps => ∃ kvs : List (Key × V), RKs k r H ds kvs ∧ ps = kvs.map fun kv => (kV kv.1, kv.2)
theorem pairs_read : ∀ {l : List ((Fr → MH → Out D) × (Fr → MH → Out D))} {σ : L2.St} {H : Hp} {r : List Addr} {f : Fr} {m : MH} {Q : List (V × V) → Hp → Prop}, RF k r H f σ → HR k r m H → Fi k (RPs k) r H (gPairs l f m) Q (fun c d H' => W c d σ H') →
    tPairs (l.map fun p => (tM k (RV k) W p.1, tM k (RV k) W p.2)) σ H Q
  | [], σ, H, r, f, m, Q, hf, hr, q => Fi.pure q hr ⟨[], rfl, rfl⟩
  | (gk, gv) :: l, σ, H, r, f, m, Q, hf, hr, q => by
    refine tM_of hf hr (Fi.bind (R := RV k) q fun x m1 r1 xv H1 p1 kp1 hr1 hx q1 => ?_)
    refine tM_of (hf.more p1 kp1) hr1 (Fi.bind (R := RV k) q1 fun y m2 r2 yv H2 p2 kp2 hr2 hy q2 => ?_)
    refine pairs_read ((hf.more p1 kp1).more p2 kp2) hr2 (Fi.bind (R := RPs k) q2 fun ps m3 r3 psv H3 p3 kp3 hr3 hps q3 => ?_)
    cases hj : keyOf x with
    | none =>
      simp only [hj] at q3
      exact q3.elim
    | some j =>
      simp only [hj] at q3
      obtain ⟨kvs, h1, h2⟩ := hps
      subst h2
      have e := key_rv hx hj
      subst e
      exact Fi.pure q3 hr3 ⟨(dkK j, yv) :: kvs, ⟨yv, kvs, rfl, RV.more p3 kp3 y yv hy, h1⟩, rfl⟩
theorem merge_rv {r : List Addr} {H : Hp} : ∀ {ps : List (DK × D)} {kvs : List (Key × V)} {acc : List (DK × D)} {accV : List (Key × V)}, RKs k r H ps kvs → RKs k r H acc accV →
    RKs k r H (ps.foldl (fun acc kv => putKD acc kv.1 kv.2) acc) (mergeK accV kvs)
  | [], _, acc, accV, h, ha => by
    obtain rfl : _ = [] := h
    exact ha
  | p :: ps, _, acc, accV, ⟨y, t, e, h1, h2⟩, ha => by
    subst e
    show RKs k r H (ps.foldl (fun acc kv => putKD acc kv.1 kv.2) (putKD acc p.1 p.2)) (mergeK (putK accV (dkK p.1) y) t)
    exact merge_rv (ps := ps) (kvs := t) h2 (put_rv h1 ha)
/-- h: pe_disp (pps_cons .. pps_nil) .. -/
theorem se_disp {e : Expr} {l : List ((Fr → MH → Out D) × (Fr → MH → Out D))} (h : PE X e (tDisp (l.map fun p => (tM k (RV k) W p.1, tM k (RV k) W p.2)))) : SE X W k e (gDisp l) := by
  refine ⟨fun pins s σ H Q I hq => h.run pins s σ H Q I ?_⟩
  obtain ⟨r, f, m, hf, hr, q⟩ := hq
  intro p hp
  have hr1 : HR k (r ++ [p]) (m ++ [.dct []]) (upd H p (.dK [])) := hr.new hp ⟨[], upd_same, rfl⟩
  have q1 := Fi.weak (List.prefix_append r [p]) (Keep.new (o := .dK []) hp) q
  refine pairs_read (hf.more (List.prefix_append r [p]) (.new hp)) hr1 (Fi.bind (R := RPs k) q1 fun ps m1 r1 psv H1 p1 kp1 hr2 hps q2 => ?_)
  have hp1 : (r ++ [p])[m.length]? = some p := by
    rw [← hr.len, List.getElem?_append_right (Nat.le_refl _), Nat.sub_self]
    rfl
  have hp2 := pre_get p1 hp1
  obtain ⟨kvs, h1, h2⟩ := hps
  split at q2
  · rename_i hm
    split at q2
    · rename_i hl
      obtain ⟨ys, hy, hv⟩ := hr2.ob _ _ p hm hp2
      obtain rfl : ys = [] := hv
      refine ⟨hy, kvs, h2, by rw [← h1.length]; exact hl, ?_⟩
      have kp : Keep H1 (upd H1 p (.dK (mergeK [] kvs))) := .put hy (fun _ z => nomatch z) fun _ _ z => nomatch z
      obtain ⟨w1, w2⟩ := hr2.put (o := .dK (mergeK [] kvs)) (u := .dct (ps.foldl (fun acc kv => putKD acc kv.1 kv.2) [])) hp2 hm ⟨_, upd_same, merge_rv (acc := []) (accV := []) (RKs.more (List.prefix_refl r1) kp _ _ h1) (show RKs k r1 _ [] [] from rfl)⟩
      exact Fi.pure (Fi.weak (List.prefix_refl r1) w2 q2) w1 ⟨p, rfl, hp2⟩
    · exact q2.elim
  · exact q2.elim
def gDict0 : Fr → MH → Out D := fun _ m => .ok (.ref m.length) (m ++ [.dct []])
theorem se_dict0 : SE X W k (.Dict [] [] pos) gDict0 := by
  refine ⟨fun pins s σ H Q I hq => pe_dnewK.run pins s σ H Q I ?_⟩
  obtain ⟨r, f, m, hf, hr, q⟩ := hq
  intro p hp
  refine q (r ++ [p]) (.ref p) _ (List.prefix_append r [p]) (.new hp) (hr.new hp ⟨[], upd_same, rfl⟩) ⟨p, rfl, ?_⟩
  rw [← hr.len, List.getElem?_append_right (Nat.le_refl _), Nat.sub_self]
  rfl
end

/-! ### methods of built-in types -/
def isTx : D → MH → Bool
  | .str _, _ => true
  | _, _ => false
def isLs : D → MH → Bool
  | .ref n, m => match m[n]? with
    | some (.lst _) => true
    | _ => false
  | _, _ => false
def gBM (c : D → MH → Bool) (M : D → List D → MH → Opt D) (g : Fr → MH → Out D) (t : Fr → MH → Out (List D)) : Fr → MH → Out D :=
  fun f m => (g f m).bind fun x m1 => if c x m1 then (t f m1).bind fun xs m2 => up (M x xs m2) else .no
def rM (k : Kx) (M : D → List D → MH → Opt D) : V → List V → Hp → VK → Prop := fun x xs H Q => ∃ r m d ds, HR k r m H ∧ RV k r H d x ∧ RVs k r H ds xs ∧ Ok k (RV k) r H (M d ds m) Q
section
variable {X : Cx} {W : WX} {k : Kx} {n : Nat} {pos : Pos} {e : Expr} {g : Fr → MH → Out D} {t : Fr → MH → Out (List D)} {M : D → List D → MH → Opt D}
theorem ty_tx {r : List Addr} {H : Hp} {m : MH} {d : D} {x : V} (_ : HR k r m H) (hd : RV k r H d x) (h : isTx d m = true) : tyV X.K "str" x H := by
  cases d with
  | str z =>
    obtain rfl : x = _ := hd
    exact rfl
  | _ => cases h
theorem ty_ls {r : List Addr} {H : Hp} {m : MH} {d : D} {x : V} (hr : HR k r m H) (hd : RV k r H d x) (h : isLs d m = true) : tyV X.K "list" x H := by
  cases d with
  | ref z =>
    obtain ⟨a, rfl, ea⟩ := hd
    have h : (match m[z]? with | some (.lst _) => true | _ => false) = true := h
    split at h
    · rename_i xs hx
      obtain ⟨ys, hy, _⟩ := hr.ob _ _ a hx ea
      exact .inl ⟨rfl, ys, .of hy⟩
    · cases h
  | _ => cases h
theorem bm_reads {T : String} {c : D → MH → Bool} (hc : ∀ (r : List Addr) (H : Hp) (m : MH) (d : D) (x : V), HR k r m H → RV k r H d x → c d m = true → tyV X.K T x H) {σ : L2.St} {H : Hp} {Q : VK} (h : tM k (RV k) W (gBM c M g t) σ H Q) :
    tBM X.K T (rM k M) (tM k (RV k) W g) (tM k (RVs k) W t) σ H Q := by
  refine tM_bind (h := fun x f m1 => if c x m1 then (t f m1).bind fun xs m2 => up (M x xs m2) else .no) h fun x r f m v H1 hf hr hv q => ?_
  by_cases hx : c x m = true
  · rw [if_pos hx] at q
    exact ⟨hc r H1 m x v hr hv hx, tM_of hf hr (Fi.bind q fun xs m2 r2 vs H2 p kp hr2 hvs q2 => ⟨r2, m2, x, xs, hr2, RV.more p kp x v hv, hvs, Fi.ok q2⟩)⟩
  · rw [if_neg hx] at q
    exact q.elim
/-- a text's method; h: pe_bm .. -/
theorem se_bmT (h : PE X e (tBM X.K "str" (rM k M) (tM k (RV k) W g) (tM k (RVs k) W t))) : SE X W k e (gBM isTx M g t) :=
  ⟨fun pins s σ H Q I hq => h.run pins s σ H Q I (bm_reads (fun r H m d x => ty_tx) hq)⟩
theorem se_bmL (h : PE X e (tBM X.K "list" (rM k M) (tM k (RV k) W g) (tM k (RVs k) W t))) : SE X W k e (gBM isLs M g t) :=
  ⟨fun pins s σ H Q I hq => h.run pins s σ H Q I (bm_reads (fun r H m d x => ty_ls) hq)⟩
theorem bm0_reads {T : String} {c : D → MH → Bool} (hc : ∀ (r : List Addr) (H : Hp) (m : MH) (d : D) (x : V), HR k r m H → RV k r H d x → c d m = true → tyV X.K T x H) {σ : L2.St} {H : Hp} {Q : VK} (h : tM k (RV k) W (gBM c M g gNil) σ H Q) :
    tBM0 X.K T (rM k M) (tM k (RV k) W g) σ H Q := by
  refine tM_bind (h := fun x f m1 => if c x m1 then (gNil f m1).bind fun xs m2 => up (M x xs m2) else .no) h fun x r f m v H1 hf hr hv q => ?_
  by_cases hx : c x m = true
  · rw [if_pos hx] at q
    exact ⟨hc r H1 m x v hr hv hx, r, m, x, [], hr, hv, rfl, Fi.ok q⟩
  · rw [if_neg hx] at q
    exact q.elim
theorem se_bmT0 (h : PE X e (tBM0 X.K "str" (rM k M) (tM k (RV k) W g))) : SE X W k e (gBM isTx M g gNil) :=
  ⟨fun pins s σ H Q I hq => h.run pins s σ H Q I (bm0_reads (fun r H m d x => ty_tx) hq)⟩
theorem se_bmL0 (h : PE X e (tBM0 X.K "list" (rM k M) (tM k (RV k) W g))) : SE X W k e (gBM isLs M g gNil) :=
  ⟨fun pins s σ H Q I hq => h.run pins s σ H Q I (bm0_reads (fun r H m d x => ty_ls) hq)⟩
end
def appM : D → List D → MH → Opt D
  | .ref a, [v], m => match m[a]? with
    | some (.lst xs) => if xs.length < 100000 then some (.non, m.set a (.lst (xs ++ [v]))) else none
    | _ => none
  | _, _, _ => none
def popM : D → List D → MH → Opt D
  | .ref a, [], m => match m[a]? with
    | some (.lst xs) => (xs[xs.length - 1]?).map fun y => (y, m.set a (.lst xs.dropLast))
    | _ => none
  | _, _, _ => none
def revM : D → List D → MH → Opt D
  | .ref a, [], m => match m[a]? with
    | some (.lst xs) => some (.non, m.set a (.lst xs.reverse))
    | _ => none
  | _, _, _ => none
def txOf : D → Option Tx
  | .str x => some x
  | _ => none
def txsOf : List D → Option (List Tx)
  | [] => some []
  | d :: ds => match txOf d, txsOf ds with
    | some x, some xs => some (x :: xs)
    | _, _ => none
def joinTx (a : Tx) : List Tx → Tx
  | [] => []
  | [x] => x
  | x :: y :: l => x ++ a ++ joinTx a (y :: l)
def joinM : D → List D → MH → Opt D
  | .str a, [d], m => match (itemsOf d m).bind txsOf with
    | some ys => if (ys.map (·.length)).sum + ys.length * a.length ≤ 100000 then some (.str (joinTx a ys), m) else none
    | none => none
  | _, _, _ => none
def spl (ss : List Str) : List D := ss.map fun z => .str z.cps.toList
def splitM : D → List D → MH → Opt D
  | .str x, [.str s], m => if s.length ≠ 0 ∧ x.length ≤ 100000 then some (.ref m.length, m ++ [.lst (spl (Txt.split (tx x) (tx s)))]) else none
  | .str x, [.str s, .int j], m => if s.length ≠ 0 ∧ x.length ≤ 100000 ∧ 0 ≤ j ∧ j ≤ 100000 then some (.ref m.length, m ++ [.lst (spl (Txt.splitMax (tx x) (tx s) j))]) else none
  | _, _, _ => none
def lstripM : D → List D → MH → Opt D
  | .str x, [.str s], m => if x.length ≤ 100000 then some (.str (Txt.lstripChars (tx x) (tx s)).cps.toList, m) else none
  | _, _, _ => none
def findM : D → List D → MH → Opt D
  | .str x, [.str s, .int i], m => some (.int (Txt.find3 (tx x) (tx s) i), m)
  | _, _, _ => none
section
variable {X : Cx} {W : WX} {k : Kx} {n : Nat}
theorem spl_rv {r : List Addr} {H : Hp} : ∀ ss : List Str, RVs k r H (spl ss) (ss.map V.str)
  | [] => rfl
  | z :: ss => ⟨V.str z, ss.map V.str, rfl, by show V.str z = V.str (tx z.cps.toList); rw [tx_cps], spl_rv ss⟩
theorem mr_app : MtR X "list.append" (rM k appM) := by
  intro pins s σ H x xs v us Q I rx rs h
  obtain ⟨r, m, d, ds, hr, hd, hds, q⟩ := h
  unfold appM at q
  split at q
  · rename_i a y
    obtain ⟨b, rfl, eb⟩ := hd
    obtain ⟨w, rfl, hw⟩ := rv1 hds
    split at q
    · rename_i xs hx
      split at q
      · rename_i hl
        obtain ⟨ys, hy, hv⟩ := hr.ob _ _ b hx eb
        have kp : Keep H (upd H b (.lst (ys ++ [w]))) := .put hy (fun _ z => nomatch z) fun _ _ z => nomatch z
        obtain ⟨w1, w2⟩ := hr.put (o := .lst (ys ++ [w])) (u := .lst (xs ++ [y])) eb hx ⟨_, upd_same, (RVs.more (List.prefix_refl r) kp _ _ hv).app (.one (RV.more (List.prefix_refl r) kp _ _ hw))⟩
        exact mt_append pins s σ H _ _ v us Q I rx rs ⟨b, ys, w, rfl, rfl, hy, by rw [← hv.length]; exact line6 hl, q r .non _ (List.prefix_refl r) w2 w1 rfl⟩
      · exact q.elim
    · exact q.elim
  · exact q.elim
theorem RVs.dropL {r : List Addr} {H : Hp} {ds : List D} {vs : List V} (h : RVs k r H ds vs) : RVs k r H ds.dropLast vs.dropLast := by
  rw [List.dropLast_eq_take, List.dropLast_eq_take, ← h.length]
  exact h.takeD _
theorem mr_pop : MtR X "list.pop" (rM k popM) := by
  intro pins s σ H x xs v us Q I rx rs h
  obtain ⟨r, m, d, ds, hr, hd, hds, q⟩ := h
  unfold popM at q
  split at q
  · rename_i a
    obtain ⟨b, rfl, eb⟩ := hd
    obtain rfl : xs = [] := hds
    split at q
    · rename_i xs hx
      obtain ⟨ys, hy, hv⟩ := hr.ob _ _ b hx eb
      cases e : xs[xs.length - 1]? with
      | none =>
        rw [e] at q
        exact q.elim
      | some y =>
        rw [e] at q
        obtain ⟨w, ew, hw⟩ := hv.get e
        have kp : Keep H (upd H b (.lst ys.dropLast)) := .put hy (fun _ z => nomatch z) fun _ _ z => nomatch z
        obtain ⟨w1, w2⟩ := hr.put (o := .lst ys.dropLast) (u := .lst xs.dropLast) eb hx ⟨_, upd_same, (RVs.more (List.prefix_refl r) kp _ _ hv).dropL⟩
        exact mt_pop pins s σ H _ _ v us Q I rx rs ⟨b, ys, w, rfl, rfl, hy, by rw [← hv.length]; exact ew, q r w _ (List.prefix_refl r) w2 w1 (RV.more (List.prefix_refl r) kp _ _ hw)⟩
    · exact q.elim
  · exact q.elim
theorem RVs.rev {r : List Addr} {H : Hp} : ∀ {ds : List D} {vs : List V}, RVs k r H ds vs → RVs k r H ds.reverse vs.reverse
  | [], _, h => by
    obtain rfl : _ = [] := h
    exact rfl
  | x :: xs, _, ⟨y, t, e, h1, h2⟩ => by
    subst e
    rw [List.reverse_cons, List.reverse_cons]
    exact (RVs.rev h2).app (.one h1)
theorem mr_rev : MtR X "list.reverse" (rM k revM) := by
  intro pins s σ H x xs v us Q I rx rs h
  obtain ⟨r, m, d, ds, hr, hd, hds, q⟩ := h
  unfold revM at q
  split at q
  · rename_i a
    obtain ⟨b, rfl, eb⟩ := hd
    obtain rfl : xs = [] := hds
    split at q
    · rename_i xs hx
      obtain ⟨ys, hy, hv⟩ := hr.ob _ _ b hx eb
      have kp : Keep H (upd H b (.lst ys.reverse)) := .put hy (fun _ z => nomatch z) fun _ _ z => nomatch z
      obtain ⟨w1, w2⟩ := hr.put (o := .lst ys.reverse) (u := .lst xs.reverse) eb hx ⟨_, upd_same, (RVs.more (List.prefix_refl r) kp _ _ hv).rev⟩
      exact mt_reverse pins s σ H _ _ v us Q I rx rs ⟨b, ys, rfl, rfl, hy, q r .non _ (List.prefix_refl r) w2 w1 rfl⟩
    · exact q.elim
  · exact q.elim
theorem txs_rv {r : List Addr} {H : Hp} : ∀ {ds : List D} {vs : List V} {xs : List Tx}, RVs k r H ds vs → txsOf ds = some xs → vs = (xs.map tx).map V.str
  | [], _, xs, h, e => by
    obtain rfl : _ = [] := h
    cases e
    rfl
  | d :: ds, _, xs, ⟨y, t, e0, h1, h2⟩, e => by
    subst e0
    unfold txsOf at e
    split at e
    · rename_i x l e1 e2
      cases e
      cases d with
      | str z =>
        cases e1
        obtain rfl : y = _ := h1
        rw [txs_rv h2 e2]
        rfl
      | _ => cases e1
    · cases e
theorem join_tx (a : Tx) : ∀ ys : List Tx, Str.join (tx a) (ys.map tx) = tx (joinTx a ys)
  | [] => rfl
  | [x] => rfl
  | x :: y :: l => by
    show tx x ++ tx a ++ Str.join (tx a) ((y :: l).map tx) = tx (x ++ a ++ joinTx a (y :: l))
    rw [join_tx a (y :: l), tx_app, tx_app]
theorem mr_join (A : At X W k n) : MtR X "str.join" (rM k joinM) := by
  intro pins s σ H x xs v us Q I rx rs h
  obtain ⟨r, m, d, ds, hr, hd, hds, q⟩ := h
  unfold joinM at q
  split at q
  · rename_i a d
    obtain rfl : x = _ := hd
    obtain ⟨w, rfl, hw⟩ := rv1 hds
    cases hi : (itemsOf d m).bind txsOf with
    | none =>
      simp only [hi] at q
      exact q.elim
    | some ys =>
      simp only [hi] at q
      split at q
      · rename_i hl
        obtain ⟨its, h1, h2⟩ := Option.bind_eq_some_iff.mp hi
        have hlen : ((ys.map tx).map (·.length)).sum + (ys.map tx).length * (tx a).length ≤ 16777216 := by
          rw [List.map_map, List.length_map, len_tx]
          exact Nat.le_trans hl (by decide)
        have go : ∀ p zs, w = .ref p → RVs k r H its zs → (SqL X.K H p zs ∨ SqT X.K H p zs) → wpAny (model X.prog X.w) X.A (call (.builtin "str.join") (v :: us)) (EP X pins σ Q) X.xe s := fun p zs ew hz hq => by
          subst ew
          have ez := txs_rv hz h2
          subst ez
          refine mt_join pins s σ H _ _ v us Q I rx rs ⟨tx a, p, ys.map tx, rfl, rfl, hq, hlen, ?_⟩
          have e3 : Txt.join (tx a) (ys.map tx) = tx (joinTx a ys) := by
            rw [← join_tx]
            exact PySem.StrLaws.glued_eq_join _ _
          rw [e3]
          exact Ok.pure q hr rfl
        cases d with
        | tup zs =>
          cases h1
          obtain ⟨p, vs, rfl, ht, hv⟩ := hw
          exact go p vs rfl hv (.inr (A.kk ▸ ht.sq))
        | frl zs =>
          cases h1
          obtain ⟨p, vs, rfl, ht, hv⟩ := hw
          exact go p vs rfl hv (.inl (A.kk ▸ ht.sq))
        | ref j =>
          have h1 : (match m[j]? with | some (.lst xs) => some xs | _ => none) = some its := h1
          split at h1
          · rename_i zs hx
            cases h1
            obtain ⟨p, rfl, ep⟩ := hw
            obtain ⟨vs, hy, hv⟩ := hr.ob _ _ p hx ep
            exact go p vs rfl hv (.inl (.of hy))
          · cases h1
        | _ => cases h1
      · exact q.elim
  · exact q.elim
theorem mr_split : MtR X "str.split" (rM k splitM) := by
  intro pins s σ H x xs v us Q I rx rs h
  obtain ⟨r, m, d, ds, hr, hd, hds, q⟩ := h
  unfold splitM at q
  split at q
  · rename_i x z
    obtain rfl : _ = _ := hd
    obtain ⟨w, rfl, hw⟩ := rv1 hds
    obtain rfl : w = _ := hw
    split at q
    · rename_i hl
      refine mt_split pins s σ H _ _ v us Q I rx rs ⟨tx x, tx z, rfl, rfl, by rw [len_tx]; exact beq_eq_false_iff_ne.mpr hl.1, ?_, new_lst q hr (spl_rv _)⟩
      rw [len_tx]
      exact Nat.le_trans (Nat.add_le_add_right hl.2 2) (by decide)
    · exact q.elim
  · rename_i x z j
    obtain rfl : _ = _ := hd
    obtain ⟨w, t, rfl, hw, ht⟩ := hds
    obtain rfl : w = _ := hw
    have ht := ints1 ht
    subst ht
    split at q
    · rename_i hl
      refine mt_splitMax pins s σ H _ _ v us Q I rx rs ⟨tx x, tx z, j, rfl, rfl, by rw [len_tx]; exact beq_eq_false_iff_ne.mpr hl.1, by omega, by omega, ?_, new_lst q hr (spl_rv _)⟩
      rw [len_tx]
      exact Nat.le_trans (Nat.add_le_add_right hl.2.1 2) (by decide)
    · exact q.elim
  · exact q.elim
theorem mr_lstrip : MtR X "str.lstrip" (rM k lstripM) := by
  intro pins s σ H x xs v us Q I rx rs h
  obtain ⟨r, m, d, ds, hr, hd, hds, q⟩ := h
  unfold lstripM at q
  split at q
  · rename_i x z
    obtain rfl : _ = _ := hd
    obtain ⟨w, rfl, hw⟩ := rv1 hds
    obtain rfl : w = _ := hw
    split at q
    · rename_i hl
      refine mt_lstripChars pins s σ H _ _ v us Q I rx rs ⟨tx x, tx z, rfl, rfl, line5 hl, Ok.pure q hr ?_⟩
      show V.str _ = V.str (tx _)
      rw [tx_cps]
    · exact q.elim
  · exact q.elim
theorem mr_find : MtR X "str.find" (rM k findM) := by
  intro pins s σ H x xs v us Q I rx rs h
  obtain ⟨r, m, d, ds, hr, hd, hds, q⟩ := h
  unfold findM at q
  split at q
  · rename_i x z j
    obtain rfl : _ = _ := hd
    obtain ⟨w, t, rfl, hw, ht⟩ := hds
    obtain rfl : w = _ := hw
    have ht := ints1 ht
    subst ht
    exact mt_find3 pins s σ H _ _ v us Q I rx rs ⟨tx x, tx z, j, rfl, rfl, Ok.pure q hr rfl⟩
  · exact q.elim
end
end Mn
end

section
/-! Mini: what repr shows of dicts, and of tuples with dicts in them. -/
namespace Mn
open PySem PySem.Spec PyProof.Rows L2
def encK : Key → PyData
  | .inl i => .int i
  | .inr x => .str x
def mapX (f : D → Option PyData) : List D → Option (List PyData)
  | [] => some []
  | x :: xs => match f x, mapX f xs with
    | some p, some ps => some (p :: ps)
    | _, _ => none
def mapK (f : D → Option PyData) : List (DK × D) → Option (List (PyData × PyData))
  | [] => some []
  | x :: xs => match f x.2, mapK f xs with
    | some p, some ps => some ((encK (dkK x.1), p) :: ps)
    | _, _ => none
/-- data with dicts in it, no lists -/
def toPyX (m : MH) : Nat → D → Option PyData
  | 0, _ => none
  | n + 1, d => match d with
    | .non => some .none
    | .bl b => some (.bool b)
    | .int i => some (.int i)
    | .str x => some (.str (tx x))
    | .tup xs => (mapX (toPyX m n) xs).map .tuple
    | .ref a => match m[a]? with
      | some (.dct kvs) => (mapK (toPyX m n) kvs).map .dict
      | _ => none
    | _ => none
section
variable {X : Cx} {pins : List (Addr × Obj)} {σ : L2.St} {H : Hp} {s : Shared} {r : List Addr} {m : MH} {k : Kx}
def ReadsOk (s : Shared) (k : Kx) (r : List Addr) (H : Hp) (f : D → Option PyData) : Prop := ∀ d v u p, f d = some p → RV k r H d v → RelV v u → ∃ as, Reads s.heap u p as ∧ sysModules ∉ as
theorem readsX_all {f : D → Option PyData} (hf : ReadsOk s k r H f) : ∀ {xs : List D} {vs : List V} {us : List Value} {ps : List PyData}, mapX f xs = some ps → RVs k r H xs vs → Vals vs us → ∃ as, ReadsAll s.heap us ps as ∧ sysModules ∉ as
  | [], vs, us, ps, h, h1, r1 => by
    obtain rfl : vs = [] := h1
    cases r1
    cases h
    exact ⟨[], .nil, fun z => nomatch z⟩
  | x :: xs, _, us, ps, h, ⟨y, t, e, h1, h2⟩, r1 => by
    subst e
    cases r1 with
    | cons a1 b1 =>
      unfold mapX at h
      split at h
      · rename_i p qs e1 e2
        cases h
        obtain ⟨as, q1, n1⟩ := hf _ _ _ _ e1 h1 a1
        obtain ⟨bs, q2, n2⟩ := readsX_all hf e2 h2 b1
        exact ⟨_, .cons q1 q2, fun z => (List.mem_append.mp z).elim n1 n2⟩
      · cases h
theorem readsX_kv {f : D → Option PyData} (hf : ReadsOk s k r H f) : ∀ {xs : List (DK × D)} {vs : List (Key × V)} {us : List (Key × Value)} {ps : List (PyData × PyData)}, mapK f xs = some ps → RKs k r H xs vs → KV vs us →
    ∃ as, PyProof.V.PairsRead s.heap encK us ps as ∧ sysModules ∉ as
  | [], vs, us, ps, h, h1, r1 => by
    obtain rfl : vs = [] := h1
    cases r1
    cases h
    exact ⟨[], .nil, fun z => nomatch z⟩
  | x :: xs, _, us, ps, h, ⟨y, t, e, h1, h2⟩, r1 => by
    subst e
    cases r1 with
    | @cons a b as bs a1 b1 =>
      obtain ⟨bk, bv⟩ := b
      obtain ⟨e0, a2⟩ := a1
      have e0 : dkK x.1 = bk := e0
      subst e0
      unfold mapK at h
      split at h
      · rename_i p qs e1 e2
        cases h
        obtain ⟨as, q1, n1⟩ := hf _ _ _ _ e1 h1 a2
        obtain ⟨bs, q2, n2⟩ := readsX_kv hf e2 h2 b1
        exact ⟨_, .cons q1 q2, fun z => (List.mem_append.mp z).elim n1 n2⟩
      · cases h
theorem key_reads {P : Program} {w : World} {h : Heap} : ∀ (j : Key) (key : Value), (mixKind P w).is j key = true → Reads h key (encK j) [] := fun j key hk => by
  have hk : keyIs j key = true := hk
  rcases keyIs_shape hk with ⟨i, t, rfl, rfl⟩ | ⟨x, t, rfl, rfl⟩
  · exact .int i t
  · exact .str x t
theorem readsX (I : Inv X pins σ H s) (hK : X.K = k.K) (hr : HR k r m H) : ∀ n, ReadsOk s k r H (toPyX m n)
  | 0 => fun d v u p h _ _ => nomatch h
  | n + 1 => fun d v u p h hv rx => by
    have ih := readsX I hK hr n
    unfold toPyX at h
    split at h
    · cases h
      obtain rfl : v = _ := hv
      obtain rfl : u = _ := rx
      exact ⟨[], .none, fun z => nomatch z⟩
    · cases h
      obtain rfl : v = _ := hv
      obtain rfl : u = _ := rx
      exact ⟨[], .bool _, fun z => nomatch z⟩
    · cases h
      obtain rfl : v = _ := hv
      obtain ⟨t, rfl⟩ := rx
      exact ⟨[], .int _ t, fun z => nomatch z⟩
    · cases h
      obtain rfl : v = _ := hv
      obtain ⟨t, rfl⟩ := rx
      exact ⟨[], .str _ t, fun z => nomatch z⟩
    · rename_i xs
      obtain ⟨a, ys, rfl, ht, hs⟩ := hv
      obtain rfl : u = Value.ref a := rx
      cases e : mapX (toPyX m n) xs with
      | none =>
        rw [e] at h
        cases h
      | some ps =>
        rw [e] at h
        cases h
        obtain ⟨ws, r1, ⟨o1, k1, k2, n1, k3⟩, _⟩ := I.tuple (hK ▸ ht.sq)
        obtain ⟨as, q1, n2⟩ := readsX_all ih e hs r1
        exact ⟨as, .tuple k1 k2 k3 q1, n2⟩
    · rename_i a
      obtain ⟨a1, rfl, ha1⟩ := hv
      obtain rfl : u = Value.ref a1 := rx
      split at h
      · rename_i kvs hx
        obtain ⟨us, hu1, q1⟩ := hr.ob _ _ _ hx ha1
        obtain ⟨_, ya, va, ra, da⟩ := (show ObjOk X.prog X.w H s.heap a1 (.dK us) from I.hok a1 _ hu1)
        cases e : mapK (toPyX m n) kvs with
        | none =>
          rw [e] at h
          cases h
        | some ps =>
          rw [e] at h
          cases h
          obtain ⟨as, p1, n2⟩ := readsX_kv ih e q1 ra
          refine ⟨_, PyProof.V.reads_dictOf (knd := mixKind X.prog X.w) key_reads da p1, fun z => ?_⟩
          rcases List.mem_cons.mp z with z | z
          · rw [z] at ya
            simp at ya
          · exact n2 z
      · cases h
    · cases h
end
end Mn
end

section
/-! Mini, part K: built-ins by name; a dict's get. -/
namespace Mn
open PySem PySem.Spec PyProof.Rows L2

def lenF : List D → MH → Opt D
  | [.str x], m => if x.length ≤ 100000 then some (.int x.length, m) else none
  | [.tup xs], m => some (.int xs.length, m)
  | [.frl xs], m => some (.int xs.length, m)
  | [.ref a], m => match m[a]? with
    | some (.lst xs) => some (.int xs.length, m)
    | some (.dct xs) => some (.int xs.length, m)
    | _ => none
  | _, _ => none
def absF : List D → MH → Opt D
  | [.int i], m => some (.int (if i < 0 then -i else i), m)
  | _, _ => none
def maxF : List D → MH → Opt D
  | [.int i, .int j], m => some (.int (if j > i then j else i), m)
  | _, _ => none
def minF : List D → MH → Opt D
  | [.int i, .int j], m => some (.int (if j < i then j else i), m)
  | _, _ => none
def intF : List D → MH → Opt D
  | [.int i], m => some (.int i, m)
  | [.bl b], m => some (.int (if b then 1 else 0), m)
  | [.str x], m => if x.length ≤ 640 then (PySem.intText? (tx x)).map fun n => (.int n, m) else none
  | _, _ => none
def strInt (i : Int) : Tx := (Str.ofString (toString i)).cps.toList
def strF : List D → MH → Opt D
  | [.int i], m => if i.natAbs < 10 ^ 500 then some (.str (strInt i), m) else none
  | _, _ => none
def shownOk (p : PyData) : Bool := p.showable && decide (p.depth ≤ 60) && !p.hasDict && decide (p.shown.length ≤ sizeLine)
def shownOkX (p : PyData) : Bool := p.showable && decide (p.depth ≤ 60) && decide (p.shown.length ≤ sizeLine)
def reprF : List D → MH → Opt D
  | [d], m => match toPy m pyF d with
    | some p => if shownOk p then some (.str p.shown.cps.toList, m) else none
    | none => match toPyX m 50 d with
      | some p => if shownOkX p then some (.str p.shown.cps.toList, m) else none
      | none => none
  | _, _ => none
def tupF : List D → MH → Opt D
  | [.tup xs], m => some (.tup xs, m)
  | [.frl xs], m => some (.tup xs, m)
  | [.ref a], m => match m[a]? with
    | some (.lst xs) => some (.tup xs, m)
    | _ => none
  | _, _ => none
def keyD : DK → D
  | .inl i => .int i
  | .inr x => .str x
def lstF : List D → MH → Opt D
  | [.tup xs], m => some (.ref m.length, m ++ [.lst xs])
  | [.frl xs], m => some (.ref m.length, m ++ [.lst xs])
  | [.ref a], m => match m[a]? with
    | some (.lst xs) => some (.ref m.length, m ++ [.lst xs])
    | some (.dct kvs) => some (.ref m.length, m ++ [.lst (kvs.map fun kv => keyD kv.1)])
    | _ => none
  | _, _ => none
def blsOf : List D → Option (List Bool)
  | [] => some []
  | d :: ds => match isB d, blsOf ds with
    | some b, some bs => some (b :: bs)
    | _, _ => none
def allF : List D → MH → Opt D
  | [.ref a], m => match m[a]? with
    | some (.lst xs) => (blsOf xs).map fun bs => (.bl (bs.all id), m)
    | _ => none
  | _, _ => none
def intsOf : List D → Option (List Int)
  | [] => some []
  | .int i :: ds => (intsOf ds).map (i :: ·)
  | _ => none
def sumF : List D → MH → Opt D
  | [.ref a], m => match m[a]? with
    | some (.lst xs) => (intsOf xs).map fun bs => (.int bs.sum, m)
    | _ => none
  | _, _ => none
/-- the number of a value's built-in class (6: none of them) -/
def tyNo (d : D) (m : MH) : Option Nat := match d with
  | .str _ => some 0
  | .int _ => some 1
  | .bl _ => some 2
  | .tup _ => some 3
  | .frl _ => some 4
  | .ref a => match m[a]? with
    | some (.lst _) => some 4
    | some (.dct _) => some 5
    | _ => none
  | .non => some 6
  | .cst _ => none
def isiF : List D → MH → Opt D
  | [d, .cst c], m => if c < 6 then (tyNo d m).map fun j => (.bl (j == c || (j == 2 && c == 1)), m) else none
  | _, _ => none
section
variable {X : Cx} {W : WX} {k : Kx} {n : Nat}
theorem cr_len (A : At X W k n) : CallR X (.builtin "len") (rN k lenF) := by
  intro pins s σ H xs us Q I rs h
  obtain ⟨r, m, ds, hr, hds, q⟩ := h
  unfold lenF at q
  split at q
  · rename_i x
    obtain ⟨w, rfl, hw⟩ := rv1 hds
    obtain rfl : w = _ := hw
    split at q
    · rename_i hl
      exact call_len pins s σ H _ us Q I rs ⟨_, x.length, rfl, ⟨line5 hl, rfl⟩, Ok.pure q hr rfl⟩
    · exact q.elim
  · obtain ⟨w, rfl, a, ys, rfl, ht, hv⟩ := rv1 hds
    exact call_len pins s σ H _ us Q I rs ⟨_, _, rfl, .inr ⟨ys, A.kk ▸ ht.sq, hv.length⟩, Ok.pure q hr rfl⟩
  · obtain ⟨w, rfl, a, ys, rfl, ht, hv⟩ := rv1 hds
    exact call_len pins s σ H _ us Q I rs ⟨_, _, rfl, .inl ⟨ys, A.kk ▸ ht.sq, hv.length⟩, Ok.pure q hr rfl⟩
  · obtain ⟨w, rfl, a, rfl, ea⟩ := rv1 hds
    split at q
    · rename_i xs hx
      obtain ⟨ys, hy, hv⟩ := hr.ob _ _ a hx ea
      exact call_len pins s σ H _ us Q I rs ⟨_, _, rfl, .inl ⟨ys, .of hy, hv.length⟩, Ok.pure q hr rfl⟩
    · rename_i xs hx
      obtain ⟨ys, hy, hv⟩ := hr.ob _ _ a hx ea
      refine call_lenD pins s σ H _ us Q I rs ⟨a, ys, rfl, hy, ?_⟩
      rw [← hv.length]
      exact Ok.pure q hr rfl
    · exact q.elim
  · exact q.elim
theorem cr_abs : CallR X (.builtin "abs") (rN k absF) := by
  intro pins s σ H xs us Q I rs h
  obtain ⟨r, m, ds, hr, hds, q⟩ := h
  unfold absF at q
  split at q
  · exact call_abs pins s σ H _ us Q I rs ⟨_, ints1 hds, Ok.pure q hr rfl⟩
  · exact q.elim
theorem cr_maxF (A : At X W k n) : CallR X (.builtin "max") (rN k maxF) := by
  intro pins s σ H xs us Q I rs h
  obtain ⟨r, m, ds, hr, hds, q⟩ := h
  unfold maxF at q
  split at q
  · exact call_max2 A.calm pins s σ H _ us Q I rs ⟨_, _, ints2 hds, Ok.pure q hr rfl⟩
  · exact q.elim
theorem cr_minF (A : At X W k n) : CallR X (.builtin "min") (rN k minF) := by
  intro pins s σ H xs us Q I rs h
  obtain ⟨r, m, ds, hr, hds, q⟩ := h
  unfold minF at q
  split at q
  · exact call_min2 A.calm pins s σ H _ us Q I rs ⟨_, _, ints2 hds, Ok.pure q hr rfl⟩
  · exact q.elim
theorem cr_int : CallR X (.type "int") (rN k intF) := by
  intro pins s σ H xs us Q I rs h
  obtain ⟨r, m, ds, hr, hds, q⟩ := h
  unfold intF at q
  split at q
  · exact call_int1 pins s σ H _ us Q I rs (.inl ⟨_, ints1 hds, Ok.pure q hr rfl⟩)
  · obtain ⟨w, rfl, hw⟩ := rv1 hds
    obtain rfl : w = _ := hw
    exact call_int1 pins s σ H _ us Q I rs (.inr ⟨_, rfl, Ok.pure q hr rfl⟩)
  · rename_i x
    obtain ⟨w, rfl, hw⟩ := rv1 hds
    obtain rfl : w = _ := hw
    split at q
    · rename_i hl
      cases e : PySem.intText? (tx x) with
      | none =>
        rw [e] at q
        exact q.elim
      | some n =>
        rw [e] at q
        exact call_int_str pins s σ H _ us Q I rs ⟨_, n, rfl, e, hl, Ok.pure q hr rfl⟩
    · exact q.elim
  · exact q.elim
theorem log_small {i : Int} (h : i.natAbs < 10 ^ 500) : i.natAbs.log2 < 1920 := by
  by_cases h0 : i.natAbs = 0
  · rw [h0]
    decide
  · exact (Nat.log2_lt h0).mpr (Nat.lt_of_lt_of_le h (by decide))
theorem cr_str : CallR X (.type "str") (rN k strF) := by
  intro pins s σ H xs us Q I rs h
  obtain ⟨r, m, ds, hr, hds, q⟩ := h
  unfold strF at q
  split at q
  · split at q
    · rename_i hl
      refine call_str_int pins s σ H _ us Q I rs ⟨_, ints1 hds, log_small hl, Ok.pure q hr ?_⟩
      show V.str _ = V.str (tx _)
      unfold strInt
      rw [tx_cps]
    · exact q.elim
  · exact q.elim
theorem ref_of_py {r : List Addr} {H : Hp} {m : MH} {d : D} {v : V} {p : PyData} {j : Nat} (hv : RV k r H d v) (e : toPy m j d = some p) : (v = .non ∧ p = .none) ∨ (∃ b, v = .bl b ∧ p = .bool b) ∨ (∃ i, v = .int i ∧ p = .int i) ∨ (∃ x, v = .str x ∧ p = .str x) ∨ ∃ a, v = .ref a := by
  cases d with
  | non =>
    rw [toPy_non] at e
    cases e
    exact .inl ⟨hv, rfl⟩
  | bl b =>
    rw [toPy_bl] at e
    cases e
    exact .inr (.inl ⟨b, hv, rfl⟩)
  | int b =>
    rw [toPy_int] at e
    cases e
    exact .inr (.inr (.inl ⟨b, hv, rfl⟩))
  | str b =>
    rw [toPy_str] at e
    cases e
    exact .inr (.inr (.inr (.inl ⟨_, hv, rfl⟩)))
  | tup b =>
    obtain ⟨a, _, rfl, _⟩ := hv
    exact .inr (.inr (.inr (.inr ⟨a, rfl⟩)))
  | frl b =>
    obtain ⟨a, _, rfl, _⟩ := hv
    exact .inr (.inr (.inr (.inr ⟨a, rfl⟩)))
  | ref b =>
    obtain ⟨a, rfl, _⟩ := hv
    exact .inr (.inr (.inr (.inr ⟨a, rfl⟩)))
  | cst b =>
    rw [toPy_cst] at e
    cases e
theorem cr_repr (A : At X W k n) : CallR X (.builtin "repr") (rN k reprF) := by
  intro pins s σ H xs us Q I rs h
  obtain ⟨r, m, ds, hr, hds, q⟩ := h
  unfold reprF at q
  split at q
  · rename_i d
    obtain ⟨w, rfl, hw⟩ := rv1 hds
    obtain ⟨u, rfl, rx⟩ := vals1 rs
    split at q
    · rename_i p hp
      split at q
      · rename_i hs
        unfold shownOk at hs
        simp only [Bool.and_eq_true, decide_eq_true_eq, Bool.not_eq_true'] at hs
        obtain ⟨⟨⟨h1, h2⟩, h3⟩, h4⟩ := hs
        have hd : Dp X.K H w p := A.kk ▸ (toPy_ok hr pyF).1 _ _ _ hw hp
        have fin : Q (.str p.shown) H := Ok.pure q hr (show V.str p.shown = V.str (tx _) by rw [tx_cps])
        rcases ref_of_py hw hp with ⟨rfl, rfl⟩ | ⟨b, rfl, rfl⟩ | ⟨i, rfl, rfl⟩ | ⟨x, rfl, rfl⟩ | ⟨a, rfl⟩
        · obtain rfl : u = _ := rx
          rw [PyData.shown_none] at fin
          exact PySem.P.repr_of_none ⟨.str _, H, I.tok _, ⟨_, rfl⟩, fin⟩
        · obtain rfl : u = _ := rx
          rw [PyData.shown_bool] at fin
          exact PySem.P.repr_of_bool ⟨.str _, H, I.tok _, ⟨_, rfl⟩, fin⟩
        · obtain ⟨t, rfl⟩ := rx
          rw [PyData.shown_int] at fin
          exact PySem.P.repr_of_int (of_decide_eq_true h1) ⟨.str _, H, I.tok _, ⟨_, rfl⟩, fin⟩
        · obtain ⟨t, rfl⟩ := rx
          rw [PyData.shown_str] at fin h4
          exact PySem.P.repr_of_str ⟨.str _, H, I.tok _, ⟨_, rfl⟩, fin⟩ h4
        · obtain rfl : u = Value.ref a := rx
          obtain ⟨as, rd⟩ := Dp.reads I p (.ref a) (.ref a) hd rfl
          have hu := A.hr.un
          refine repr_of_reads' rd h1 (fun z => ?_) A.gd (by omega) (fun _ _ z => z) (fun h' t tk kp => ?_) h4
          · rw [h3] at z
            cases z
          · exact ⟨.str _, H, I.kept kp, ⟨_, rfl⟩, fin⟩
      · exact q.elim
    · rename_i hp
      split at q
      · rename_i p hpx
        split at q
        · rename_i hs
          unfold shownOkX at hs
          simp only [Bool.and_eq_true, decide_eq_true_eq] at hs
          obtain ⟨⟨h1, h2⟩, h4⟩ := hs
          have fin : Q (.str p.shown) H := Ok.pure q hr (show V.str p.shown = V.str (tx _) by rw [tx_cps])
          obtain ⟨a, rfl⟩ : ∃ a, w = V.ref a := by
            cases d with
            | non => rw [toPy_non] at hp; cases hp
            | bl b => rw [toPy_bl] at hp; cases hp
            | int b => rw [toPy_int] at hp; cases hp
            | str b => rw [toPy_str] at hp; cases hp
            | tup b =>
              obtain ⟨a, _, rfl, _⟩ := hw
              exact ⟨a, rfl⟩
            | frl b =>
              obtain ⟨a, _, rfl, _⟩ := hw
              exact ⟨a, rfl⟩
            | ref b =>
              obtain ⟨a, rfl, _⟩ := hw
              exact ⟨a, rfl⟩
            | cst b => cases hpx
          obtain rfl : u = Value.ref a := rx
          obtain ⟨as, rd, ns⟩ := readsX I A.kk.symm hr 50 d _ _ p hpx hw rfl
          have hu := A.hr.un
          exact repr_of_reads' rd h1 (fun _ => ns) A.gd (by omega) (fun _ _ z => z) (fun h' t tk kp => ⟨.str _, H, I.kept kp, ⟨_, rfl⟩, fin⟩) h4
        · exact q.elim
      · exact q.elim
  · exact q.elim
theorem cr_tup (A : At X W k n) : CallR X (.type "tuple") (rN k tupF) := by
  intro pins s σ H xs us Q I rs h
  obtain ⟨r, m, ds, hr, hds, q⟩ := h
  unfold tupF at q
  split at q
  · obtain ⟨w, rfl, a, ys, rfl, ht, hv⟩ := rv1 hds
    exact call_tuple_of pins s σ H _ us Q I rs ⟨a, ys, rfl, .inr ⟨A.kk ▸ ht.sq, Ok.pure q hr ⟨a, ys, rfl, ht, hv⟩⟩⟩
  · obtain ⟨w, rfl, a, ys, rfl, ht, hv⟩ := rv1 hds
    exact call_tuple_of pins s σ H _ us Q I rs ⟨a, ys, rfl, .inl ⟨A.kk ▸ ht.sq, new_tup q hr hv⟩⟩
  · obtain ⟨w, rfl, a, rfl, ea⟩ := rv1 hds
    split at q
    · rename_i xs hx
      obtain ⟨ys, hy, hv⟩ := hr.ob _ _ a hx ea
      exact call_tuple_of pins s σ H _ us Q I rs ⟨a, ys, rfl, .inl ⟨.of hy, new_tup q hr hv⟩⟩
    · exact q.elim
  · exact q.elim
theorem keys_rv {r : List Addr} {H : Hp} : ∀ {ds : List (DK × D)} {vs : List (Key × V)}, RKs k r H ds vs → RVs k r H (ds.map fun kv => keyD kv.1) (vs.map fun kv => kV kv.1)
  | [], _, h => by
    obtain rfl : _ = [] := h
    exact rfl
  | (j, d) :: ds, _, ⟨y, t, e, _, q⟩ => by
    subst e
    refine ⟨kV (dkK j), _, rfl, ?_, keys_rv q⟩
    cases j <;> exact rfl
theorem cr_lst (A : At X W k n) : CallR X (.type "list") (rN k lstF) := by
  intro pins s σ H xs us Q I rs h
  obtain ⟨r, m, ds, hr, hds, q⟩ := h
  unfold lstF at q
  split at q
  · obtain ⟨w, rfl, a, ys, rfl, ht, hv⟩ := rv1 hds
    exact call_list_of pins s σ H _ us Q I rs ⟨a, ys, rfl, .inr (A.kk ▸ ht.sq), new_lst q hr hv⟩
  · obtain ⟨w, rfl, a, ys, rfl, ht, hv⟩ := rv1 hds
    exact call_list_of pins s σ H _ us Q I rs ⟨a, ys, rfl, .inl (A.kk ▸ ht.sq), new_lst q hr hv⟩
  · obtain ⟨w, rfl, a, rfl, ea⟩ := rv1 hds
    split at q
    · rename_i xs hx
      obtain ⟨ys, hy, hv⟩ := hr.ob _ _ a hx ea
      exact call_list_of pins s σ H _ us Q I rs ⟨a, ys, rfl, .inl (.of hy), new_lst q hr hv⟩
    · rename_i kvs hx
      obtain ⟨ys, hy, hv⟩ := hr.ob _ _ a hx ea
      exact call_listD A.calm pins s σ H _ us Q I rs ⟨a, ys, rfl, .of hy, new_lst q hr (keys_rv hv)⟩
    · exact q.elim
  · exact q.elim
theorem bls_rv {r : List Addr} {H : Hp} : ∀ {ds : List D} {vs : List V} {bs : List Bool}, RVs k r H ds vs → blsOf ds = some bs → vs = bs.map V.bl
  | [], _, xs, h, e => by
    obtain rfl : _ = [] := h
    cases e
    rfl
  | d :: ds, _, xs, ⟨y, t, e0, h1, h2⟩, e => by
    subst e0
    unfold blsOf at e
    split at e
    · rename_i x l e1 e2
      cases e
      have e3 := isB_some e1
      subst e3
      obtain rfl : y = _ := h1
      rw [bls_rv h2 e2]
      rfl
    · cases e
theorem ints_rv {r : List Addr} {H : Hp} : ∀ {ds : List D} {vs : List V} {bs : List Int}, RVs k r H ds vs → intsOf ds = some bs → vs = bs.map V.int
  | [], _, xs, h, e => by
    obtain rfl : _ = [] := h
    cases e
    rfl
  | d :: ds, _, xs, ⟨y, t, e0, h1, h2⟩, e => by
    subst e0
    cases d with
    | int i =>
      have e : (intsOf ds).map (i :: ·) = some xs := e
      cases e2 : intsOf ds with
      | none =>
        rw [e2] at e
        cases e
      | some l =>
        rw [e2] at e
        cases e
        obtain rfl : y = _ := h1
        rw [ints_rv h2 e2]
        rfl
    | _ => cases e
theorem cr_allF (A : At X W k n) : CallR X (.builtin "all") (rN k allF) := by
  intro pins s σ H xs us Q I rs h
  obtain ⟨r, m, ds, hr, hds, q⟩ := h
  unfold allF at q
  split at q
  · obtain ⟨w, rfl, a, rfl, ea⟩ := rv1 hds
    split at q
    · rename_i xs hx
      obtain ⟨ys, hy, hv⟩ := hr.ob _ _ a hx ea
      cases e : blsOf xs with
      | none =>
        rw [e] at q
        exact q.elim
      | some bs =>
        rw [e] at q
        have e2 := bls_rv hv e
        subst e2
        exact cr_all A.calm pins s σ H _ us Q I rs ⟨a, bs, rfl, .of hy, Ok.pure q hr rfl⟩
    · exact q.elim
  · exact q.elim
theorem cr_sumF (A : At X W k n) : CallR X (.builtin "sum") (rN k sumF) := by
  intro pins s σ H xs us Q I rs h
  obtain ⟨r, m, ds, hr, hds, q⟩ := h
  unfold sumF at q
  split at q
  · obtain ⟨w, rfl, a, rfl, ea⟩ := rv1 hds
    split at q
    · rename_i xs hx
      obtain ⟨ys, hy, hv⟩ := hr.ob _ _ a hx ea
      cases e : intsOf xs with
      | none =>
        rw [e] at q
        exact q.elim
      | some bs =>
        rw [e] at q
        have e2 := ints_rv hv e
        subst e2
        exact cr_sum A.calm pins s σ H _ us Q I rs ⟨a, bs, rfl, .of hy, Ok.pure q hr rfl⟩
    · exact q.elim
  · exact q.elim
/-- the built-in classes' names -/
def tyNm : Nat → String
  | 0 => "str"
  | 1 => "int"
  | 2 => "bool"
  | 3 => "tuple"
  | 4 => "list"
  | 5 => "dict"
  | _ => "NoneType"
theorem ty_kit : ∀ j, j < 7 → ∀ c, c < 6 → kitB (tyNm j) (tyNm c) = some (j == c || (j == 2 && c == 1)) := by decide +kernel
theorem ty_x (A : At X W k n) {r : List Addr} {H : Hp} {m : MH} {d : D} {v : V} {j : Nat} (hr : HR k r m H) (hv : RV k r H d v) (e : tyNo d m = some j) : TyX X.K H v (.type (tyNm j)) ∧ j < 7 := by
  have kL : ∀ {a ys}, FrlAt k.K H a ys → TyX X.K H (.ref a) (.type "list") := by
    intro a ys h
    rcases h with ⟨o, h⟩ | (h | ⟨o, h⟩) | ⟨o, its, nn, h1, h2, _⟩
    · exact .base (.frz h)
    · cases h
    · cases h
    · exact .kList (A.kk ▸ h1) h2
  have kT : ∀ {a ys}, TupAt k.K H a ys → TyX X.K H (.ref a) (.type "tuple") := by
    intro a ys h
    rcases h with h | (h | ⟨o, h⟩) | ⟨o, its, nn, h1, h2, _⟩
    · exact .base (.tup h)
    · cases h
    · cases h
    · exact .kTuple (A.kk ▸ h1) h2
  cases d with
  | non =>
    cases e
    obtain rfl : v = _ := hv
    exact ⟨.base .non, by decide⟩
  | bl b =>
    cases e
    obtain rfl : v = _ := hv
    exact ⟨.base (.bl b), by decide⟩
  | int b =>
    cases e
    obtain rfl : v = _ := hv
    exact ⟨.base (.int b), by decide⟩
  | str b =>
    cases e
    obtain rfl : v = _ := hv
    exact ⟨.base (.str _), by decide⟩
  | tup b =>
    cases e
    obtain ⟨a, ys, rfl, ht, _⟩ := hv
    exact ⟨kT ht, by decide⟩
  | frl b =>
    cases e
    obtain ⟨a, ys, rfl, ht, _⟩ := hv
    exact ⟨kL ht, by decide⟩
  | ref b =>
    obtain ⟨a, rfl, ea⟩ := hv
    have e : (match m[b]? with | some (.lst _) => some 4 | some (.dct _) => some 5 | _ => none) = some j := e
    split at e
    · rename_i xs hx
      cases e
      obtain ⟨ys, hy, _⟩ := hr.ob _ _ a hx ea
      exact ⟨.base (.lst hy), by decide⟩
    · rename_i xs hx
      cases e
      obtain ⟨ys, hy, _⟩ := hr.ob _ _ a hx ea
      exact ⟨.base (.dK hy), by decide⟩
    · cases e
  | cst b => cases e
theorem cv_ty : ∀ c, c < 6 → cV k c = .ty (tyNm c)
  | 0, _ => rfl
  | 1, _ => rfl
  | 2, _ => rfl
  | 3, _ => rfl
  | 4, _ => rfl
  | 5, _ => rfl
  | c + 6, h => absurd h (by omega)
theorem cr_isi (A : At X W k n) : CallR X (.builtin "isinstance") (rN k isiF) := by
  intro pins s σ H xs us Q I rs h
  obtain ⟨r, m, ds, hr, hds, q⟩ := h
  unfold isiF at q
  split at q
  · rename_i d c
    obtain ⟨w, t, rfl, hw, ht⟩ := hds
    obtain ⟨z, rfl, hz⟩ := rv1 ht
    split at q
    · rename_i hc
      obtain rfl : z = _ := hz
      cases e : tyNo d m with
      | none =>
        rw [e] at q
        exact q.elim
      | some j =>
        rw [e] at q
        obtain ⟨t1, t2⟩ := ty_x A hr hw e
        rw [cv_ty c hc] at rs
        refine call_isi pins s σ H _ us Q I rs ⟨w, _, _, _, _, rfl, .ty _, t1, kit_ty (ty_kit j t2 c hc), ?_⟩
        exact Ok.pure q hr rfl
    · exact q.elim
  · exact q.elim
/-- a built-in class as a value -/
theorem se_ty {x : Str} {p : Pos} (c : Nat) (h : PE X (.Name x p) (tC (.ty (tyNm c)))) (hc : c < 6 := by decide) : SE X W k (.Name x p) (gCon (.cst c)) :=
  se_con h fun r H => by
    show V.ty _ = cV k c
    rw [cv_ty c hc]
/-! ### d.get(k), d.get(k, x) -/
def gGet (g gk gx : Fr → MH → Out D) : Fr → MH → Out D := fun f m => (g f m).bind fun d m1 => match d with
  | .ref a => match m1[a]? with
    | some (.dct _) => (gk f m1).bind fun j m2 => (gx f m2).bind fun x m3 => match m3[a]? with
      | some (.dct kvs) => match keyOf j with
        | some j => .ok ((findK kvs j).getD x) m3
        | none => .no
      | _ => .no
    | _ => .no
  | _ => .no
/-- h: pe_dget2 .. -/
theorem se_get2 {e : Expr} {g gk gx : Fr → MH → Out D} (h : PE X e (tDGet2 (tM k (RV k) W g) (tM k (RV k) W gk) (tM k (RV k) W gx))) : SE X W k e (gGet g gk gx) := by
  refine ⟨fun pins s σ H Q I hq => h.run pins s σ H Q I ?_⟩
  obtain ⟨r, f, m, hf, hr, q⟩ := hq
  refine tM_of hf hr (Fi.bind (R := RV k) q fun d m1 r1 v H1 p kp hr1 hv q1 => ?_)
  split at q1
  · rename_i a
    obtain ⟨b, rfl, eb⟩ := hv
    split at q1
    · rename_i kvs0 hx0
      obtain ⟨ys0, hy0, _⟩ := hr1.ob _ _ b hx0 eb
      have hf1 := hf.more p kp
      refine ⟨b, rfl, .inl ⟨ys0, .of hy0⟩, tM_of hf1 hr1 (Fi.bind (R := RV k) q1 fun j m2 r2 jv H2 p2 kp2 hr2 hj q2 => tM_of (hf1.more p2 kp2) hr2 (Fi.bind (R := RV k) q2 fun x m3 r3 xv H3 p3 kp3 hr3 hx q3 => ?_))⟩
      split at q3
      · rename_i kvs hx1
        split at q3
        · rename_i j' hj'
          have eb3 := pre_get p3 (pre_get p2 eb)
          obtain ⟨ys, hy, hv⟩ := hr3.ob _ _ b hx1 eb3
          have e := key_rv hj hj'
          subst e
          refine ⟨_, DGet.k hy, ?_⟩
          rcases val_rv j' hv with ⟨h1, h2⟩ | ⟨d, v, h1, h2, h3⟩
          · rw [h2]
            rw [h1] at q3
            exact Fi.pure q3 hr3 hx
          · rw [h2]
            rw [h1] at q3
            exact Fi.pure q3 hr3 h3
        · exact q3.elim
      · exact q3.elim
    · exact q1.elim
  · exact q1.elim
end
end Mn
end

section
/-! Mini, part L: the law's end. -/
namespace Mn
open PySem PySem.Spec PyProof.Rows L2

/-- the script alone may be followed -/
def scrH (a : Addr) (o : Obj) (ns : List Int) : Hp := fun b => if b = a then some (.frz o (.lst (ns.map V.int))) else none
theorem scrH_at {a : Addr} {o : Obj} {ns : List Int} : scrH a o ns a = some (.frz o (.lst (ns.map V.int))) := if_pos rfl
theorem scrH_off {a b : Addr} {o : Obj} {ns : List Int} (h : b ≠ a) : scrH a o ns b = none := if_neg h
theorem rv_ints {k : Kx} {r : List Addr} {H : Hp} : ∀ ns : List Int, RVs k r H (ns.map D.int) (ns.map V.int)
  | [] => rfl
  | n :: ns => ⟨.int n, ns.map V.int, rfl, rfl, rv_ints ns⟩
section
variable {P : Program} {w : World} {mg mb : Str → Option Value} {k : Kx} {n : Nat} {fa a : Addr} {fd : FuncData} {x : Str} {F : List D → MH → Out D} {s1 : Shared} {vs : List Value} {ns : List Int}
/-- the call of the law at an abstract heap H of which only the script is followed -/
theorem law_at (KX : k.K.In s1.heap) (hns : s1.heap.Ns mainGlobals mg) (hb : s1.heap.Ns builtinsNs mb) (hbb : ∀ x : Str, x ≠ "__name__" → mb x = bootBuiltins x) (hlim : s1.heap.NoLimit) (hg : s1.gens = #[])
    (ha : s1.heap.get? a = some { cls := .type "list", data := .seq vs.toArray }) (hr : Room n callerA)
    (G : ∀ base : Heap, k.K.In base → base.Ns mainGlobals mg → FnM P w mg base k n fa fd [x] F) (bnd : ∀ (s : Shared) (u : Value), BindsTo s fd ⟨[u], []⟩ [(x, u)])
    {m' : MH} (hF : F [.frl (ns.map D.int)] [] = .ok (.bl true) m')
    (H : Hp) (hS : FrlAt k.K H a (ns.map V.int)) (hok : HOk P w H s1.heap) (only : ∀ b u, H b = some u → b = a ∧ u = .frz { cls := .type "list", data := .seq vs.toArray } (.lst (ns.map V.int))) (off : H a ≠ none → k.K.lookup a = none) :
    codeAny (model P w) callerA (.call (.ref fa) ⟨[.ref a], []⟩) (fun r s' => r = .ok (.ret (.bool true)) ∧ OldK s1.heap s'.heap ∧ s'.os = s1.os ∧ AllBare s'.gens) s1 := by
  have un1 : ∀ b, H b ≠ none → b = a := by
    intro b hb
    cases e : H b with
    | none => exact absurd e hb
    | some u => exact (only b u e).1
  have dict0 : ∀ {b : Addr} {o : Obj} {es : Array DictEntry} {ep : Nat}, s1.heap.get? b = some o → o.data = .dict es ep → H b = none := by
    intro b o es ep e d
    by_cases hn : H b = none
    · exact hn
    · have e2 := un1 b hn
      subst e2
      rw [ha] at e
      cases e
      cases (show Data.seq vs.toArray _ = Data.dict es ep from d)
  have ns1 : ∀ {b : Addr} {m : Str → Option Value}, s1.heap.Ns b m → (hidT s1.heap H).Ns b m := by
    rintro b m ⟨o, es, ep, e, d, rest⟩
    exact ⟨o, es, ep, hidT_get e (dict0 e d), d, rest⟩
  have kin : k.K.In (hidT s1.heap H) := by
    intro b o e
    refine hidT_get (KX b o e) ?_
    by_cases hn : H b = none
    · exact hn
    · have e2 := un1 b hn
      subst e2
      rw [off hn] at e
      cases e
  have md : Mod k.K mg (hidT s1.heap H) := by
    obtain ⟨mc, l1, l2⟩ := hlim
    exact ⟨kin, ns1 hns, ⟨mb, ns1 hb, hbb⟩, ⟨mc, ns1 l1, l2⟩⟩
  have e0 : Env0 P w k.K mg (hidT s1.heap H) callerA [] s1 H :=
    ⟨rfl, md, fun b o e => of_hidT e, Nat.le_of_eq (hidT_size _ _), trivial, fun b hb => (nomatch hb), hok, .of_eq hg⟩
  have hR : HR k [] [] H := ⟨rfl, List.Pairwise.nil, fun i o b e => nomatch e⟩
  have hV : RVs k [] H [.frl (ns.map D.int)] [.ref a] := ⟨.ref a, [], rfl, ⟨a, _, rfl, hS, rv_ints ns⟩, rfl⟩
  refine codeAny_mono ((G _ kin (ns1 hns)).run callerA [] s1 H ⟨[.ref a], []⟩ [.ref a] [.ref a] (fun v _ => v = .bl true) (fun _ _ _ => False) [] [] _ hr rfl e0 (bnd s1 (.ref a)) (.cons rfl .nil) hR hV rfl ?_) fun res s' h => ?_
  · rw [hF]
    intro r' v H' _ _ _ hv
    exact hv
  · match res, h with
    | .error e, h =>
      obtain ⟨_, _, _, _, _, _, _, _, _, _, _, _, z⟩ := h
      exact z.elim
    | .ok .next, h => exact h.elim
    | .ok .brk, h => exact h.elim
    | .ok .cont, h => exact h.elim
    | .ok (.ret u), h =>
      obtain ⟨v, H', os, bare, un, hok2, rv, ev⟩ := h
      subst ev
      obtain rfl : u = Value.bool true := rv
      refine ⟨rfl, OldK.of_keep fun b o e => ?_, os, bare⟩
      cases eb : H b with
      | none => exact un.keep b o e eb (fun z => nomatch z) (fun z => nomatch z)
      | some u =>
        obtain ⟨_, rfl⟩ := only b u eb
        have f2 := un.frzs b _ _ eb
        obtain ⟨g1, _⟩ := hok b _ eb
        obtain ⟨g2, _⟩ := hok2 b _ f2
        rw [e] at g1
        cases g1
        exact g2
theorem law_fm (KX : k.K.In s1.heap) (hns : s1.heap.Ns mainGlobals mg) (hb : s1.heap.Ns builtinsNs mb) (hbb : ∀ x : Str, x ≠ "__name__" → mb x = bootBuiltins x) (hlim : s1.heap.NoLimit) (hg : s1.gens = #[])
    (ha : s1.heap.get? a = some { cls := .type "list", data := .seq vs.toArray }) (hi : IntsAre vs ns) (hl : ns.length ≤ sizeLine) (hr : Room n callerA)
    (G : ∀ base : Heap, k.K.In base → base.Ns mainGlobals mg → FnM P w mg base k n fa fd [x] F) (bnd : ∀ (s : Shared) (u : Value), BindsTo s fd ⟨[u], []⟩ [(x, u)])
    {m' : MH} (hF : F [.frl (ns.map D.int)] [] = .ok (.bl true) m') :
    codeAny (model P w) callerA (.call (.ref fa) ⟨[.ref a], []⟩) (fun r s' => r = .ok (.ret (.bool true)) ∧ OldK s1.heap s'.heap ∧ s'.os = s1.os ∧ AllBare s'.gens) s1 := by
  have rv := vals_ints hi
  have hlen := hi.length
  have eqv : (ns.map V.int).length = vs.length := rv.length
  cases hk : k.K.lookup a with
  | some o =>
    have e := KX a o hk
    rw [ha] at e
    cases e
    refine law_at KX hns hb hbb hlim hg ha hr G bnd hF (fun _ => none) (.inr (.inr ⟨_, vs.toArray, _, hk, rfl, rfl, rfl, ?_, by simpa using rv⟩)) (fun b u z => (nomatch z)) (fun b u z => (nomatch z)) fun z => absurd rfl z
    rw [List.size_toArray, hlen]
    exact hl
  | none =>
    refine law_at KX hns hb hbb hlim hg ha hr G bnd hF (scrH a { cls := .type "list", data := .seq vs.toArray } ns) (.inl ⟨_, scrH_at⟩) (fun b u z => ?_) (fun b u z => ?_) fun _ => hk
    · by_cases e : b = a
      · subst e
        rw [scrH_at] at z
        cases z
        exact ⟨ha, by rw [List.length_map]; exact hl, vs, _, rv, ha⟩
      · rw [scrH_off e] at z
        cases z
    · by_cases e : b = a
      · subst e
        rw [scrH_at] at z
        exact ⟨rfl, (Option.some.inj z).symm⟩
      · rw [scrH_off e] at z
        cases z
end
/-- a law, over a head that tells facts -/
theorem walk_fm {l : PySem.W.OpenLaw} {n : Nat} {q : Program} {loose : List Str} {XP : (Str → Option Value) → Heap → Prop} {YP : World → Heap → Prop} {d : DefRec} {x : Str} {F : List D → MH → Out D}
    (hn : l.most = some 63) (hdf : d.params.defaults = []) (hr : Room n callerA)
    (hF : ∀ ns : List Int, ns.length ≤ 63 → ∃ m', F [.frl (ns.map D.int)] [] = .ok (.bl true) m')
    (hG : ∀ (w : World) (mg : Str → Option Value) (fa : Addr) (h : Heap), YP w h → h.Ns mainGlobals mg → mg d.name = some (.ref fa) →
      ∃ (k : Kx) (fd : FuncData), k.K.In h ∧ (∀ (s : Shared) (u : Value), BindsTo s fd ⟨[u], []⟩ [(x, u)]) ∧ ∀ base : Heap, k.K.In base → base.Ns mainGlobals mg → FnM l.prog w mg base k n fa fd [x] F) :
    PySem.W.WalkO q loose XP YP l.row.toRowW d [] (fun f vs => PySem.call f vs) := by
  refine Att.attach_call hn hdf fun w s0 s1 mg mb fa o pm cd doc a vs ns G Y ho hd hcd hmg hobj hints hlen hg => ?_
  obtain ⟨k, fd, KX, bnd, G1⟩ := hG w mg fa _ Y G.T.g hmg
  obtain ⟨m', e⟩ := hF ns hlen
  exact law_fm KX G.T.g G.T.b G.T.builtins G.T.nolimit hg hobj hints (Nat.le_trans hlen (by decide)) hr G1 bnd e
end Mn
end

section
/-! Mini, part M: how calls bind, by a list of picks. -/
namespace Mn
open PySem PySem.Spec PyProof.Rows L2

/-- where a parameter's value comes from: the i-th value by place, the i-th default, the i-th keyword-only default that lacks, the i-th keyword -/
inductive Pk where
  | u (i : Nat)
  | t (i : Nat)
  | m (i : Nat)
  | w (i : Nat)
def Pk.get {α : Type} (us its mv ws : List α) : Pk → List α
  | .u i => (us.drop i).take 1
  | .t i => (its.drop i).take 1
  | .m i => (mv.drop i).take 1
  | .w i => (ws.drop i).take 1
def pks {α : Type} : List Pk → List α → List α → List α → List α → List α
  | [], _, _, _, _ => []
  | p :: l, us, its, mv, ws => p.get us its mv ws ++ pks l us its mv ws
theorem Vals.pk {us its mv ws : List V} {u2 i2 m2 w2 : List Value} (h1 : Vals us u2) (h2 : Vals its i2) (h3 : Vals mv m2) (h4 : Vals ws w2) : ∀ l : List Pk, Vals (pks l us its mv ws) (pks l u2 i2 m2 w2)
  | [] => .nil
  | .u i :: l => ((h1.drop i).take 1).append (Vals.pk h1 h2 h3 h4 l)
  | .t i :: l => ((h2.drop i).take 1).append (Vals.pk h1 h2 h3 h4 l)
  | .m i :: l => ((h3.drop i).take 1).append (Vals.pk h1 h2 h3 h4 l)
  | .w i :: l => ((h4.drop i).take 1).append (Vals.pk h1 h2 h3 h4 l)
theorem RVs.pk {k : Kx} {r : List Addr} {H : Hp} {us its mv ws : List D} {u2 i2 m2 w2 : List V} (h1 : RVs k r H us u2) (h2 : RVs k r H its i2) (h3 : RVs k r H mv m2) (h4 : RVs k r H ws w2) : ∀ l : List Pk, RVs k r H (pks l us its mv ws) (pks l u2 i2 m2 w2)
  | [] => rfl
  | .u i :: l => ((h1.dropD i).takeD 1).app (RVs.pk h1 h2 h3 h4 l)
  | .t i :: l => ((h2.dropD i).takeD 1).app (RVs.pk h1 h2 h3 h4 l)
  | .m i :: l => ((h3.dropD i).takeD 1).app (RVs.pk h1 h2 h3 h4 l)
  | .w i :: l => ((h4.dropD i).takeD 1).app (RVs.pk h1 h2 h3 h4 l)
def Pk.ok (a b c d : Nat) : Pk → Bool
  | .u i => i < a
  | .t i => i < b
  | .m i => i < c
  | .w i => i < d
theorem pks_len {α : Type} {us its mv ws : List α} : ∀ l : List Pk, l.all (Pk.ok us.length its.length mv.length ws.length) = true → (pks l us its mv ws).length = l.length
  | [], _ => rfl
  | p :: l, h => by
    rw [List.all_cons, Bool.and_eq_true] at h
    have ih := pks_len l h.2
    have one : (p.get us its mv ws).length = 1 := by
      cases p with
      | u i =>
        have h1 := of_decide_eq_true (show decide (i < us.length) = true from h.1)
        show ((us.drop i).take 1).length = 1
        rw [List.length_take, List.length_drop]
        omega
      | t i =>
        have h1 := of_decide_eq_true (show decide (i < its.length) = true from h.1)
        show ((its.drop i).take 1).length = 1
        rw [List.length_take, List.length_drop]
        omega
      | m i =>
        have h1 := of_decide_eq_true (show decide (i < mv.length) = true from h.1)
        show ((mv.drop i).take 1).length = 1
        rw [List.length_take, List.length_drop]
        omega
      | w i =>
        have h1 := of_decide_eq_true (show decide (i < ws.length) = true from h.1)
        show ((ws.drop i).take 1).length = 1
        rw [List.length_take, List.length_drop]
        omega
    show (p.get us its mv ws ++ pks l us its mv ws).length = l.length + 1
    rw [List.length_append, one, ih]
    omega
/-- constants lie anywhere -/
def Cst (k : Kx) (ds : List D) (vs : List V) : Prop := ∀ r H, RVs k r H ds vs
section
variable {k : Kx} {x qual : Str} {params : Arguments} {body : List Stmt} {scope : Scope} {dvs : List V} {kws : List (Str × V)} {f : Addr} {fd : FuncData} {ps : List Str}
/-- f: the picks l; n values by place, keywords ks; dD the defaults, ms the keyword-only ones that lack -/
theorem kb_of (F : FunD k.K x qual params body scope dvs kws f fd) (n : Nat) (ks : List Str) (ms : List (Str × V)) (l : List Pk) (dD mD : List D) (hms : ∀ q ∈ ms, q ∈ kws) (cd : Cst k dD dvs) (cm : Cst k mD (ms.map (·.2)))
    (hl : l.length = ps.length) (hok : l.all (Pk.ok n dD.length mD.length ks.length) = true)
    (h : ∀ (dV kV doc pm : Value) (an : Option Addr) (cdv ct : Value) (us mv ws : List Value), us.length = n → mv.length = ms.length → ws.length = ks.length →
      (dvs = [] → dV = .none → (kws = [] → bindArgs (PySem.W.fnOf x qual params body scope dV kV doc pm an cdv ct) ⟨us, ks.zip ws⟩ = pure (ps.zip (pks l us [] mv ws))) ∧
        ∀ D, kV = .ref D → KwChain D ((ms.map (·.1)).zip mv) (bindArgs (PySem.W.fnOf x qual params body scope dV kV doc pm an cdv ct) ⟨us, ks.zip ws⟩) (ps.zip (pks l us [] mv ws))) ∧
      (dvs ≠ [] → ∀ T its, dV = .ref T → its.length = dvs.length → ∃ kk, bindArgs (PySem.W.fnOf x qual params body scope dV kV doc pm an cdv ct) ⟨us, ks.zip ws⟩ = seqItems? (.ref T) >>= kk ∧
        (kws = [] → kk (some its.toArray) = pure (ps.zip (pks l us its mv ws))) ∧ ∀ D, kV = .ref D → KwChain D ((ms.map (·.1)).zip mv) (kk (some its.toArray)) (ps.zip (pks l us its mv ws)))) :
    KB k fd ps n ks (fun us ws => pks l us dD mD ws) := by
  obtain ⟨oc, od, dV, kV, doc, pm, an, cdv, ct, osl, rfl, lk, hcd, hD, hK⟩ := F.ex
  have fin : ∀ (its mv : List Value), Vals dvs its → Vals (ms.map (·.2)) mv →
      (∀ (s : Shared) (us ws : List Value), k.K.In s.heap → us.length = n → ws.length = ks.length → BindsTo s (PySem.W.fnOf x qual params body scope dV kV doc pm an cdv ct) ⟨us, ks.zip ws⟩ (ps.zip (pks l us its mv ws))) →
      KB k (PySem.W.fnOf x qual params body scope dV kV doc pm an cdv ct) ps n ks (fun us ws => pks l us dD mD ws) := by
    intro its mv r1 r2 b
    refine ⟨fun us ws => pks l us its mv ws, fun vs zs => pks l vs dvs (ms.map (·.2)) zs, ⟨b, fun q1 q2 => Vals.pk q1 r1 r2 q2 l⟩, fun r H vs zs ds es q1 q2 e1 e2 => ⟨RVs.pk q1 (cd r H) (cm r H) q2 l, ?_⟩⟩
    rw [pks_len l (by rw [e1, e2]; exact hok), hl]
  -- the keyword-only ones that lack
  have kv : ∃ mv : List Value, mv.length = ms.length ∧ Vals (ms.map (·.2)) mv ∧ (kws = [] ∨ ∃ D, kV = .ref D ∧ ∀ q ∈ (ms.map (·.1)).zip mv, PySem.W.nsIn k.K D q.1 = some (some q.2)) := by
    rcases hK with e | ⟨D, e, hq⟩
    · have e2 : ms = [] := by
        cases ms with
        | nil => rfl
        | cons q l =>
          have := hms q List.mem_cons_self
          rw [e] at this
          cases this
      subst e2
      exact ⟨[], rfl, .nil, .inl e⟩
    · obtain ⟨mv, l1, l2, l3⟩ := kwd_vals (ms := ms) fun q hm => hq q (hms q hm)
      exact ⟨mv, l1, l2, .inr ⟨D, e, l3⟩⟩
  obtain ⟨mv, lm, rm, hkk⟩ := kv
  rcases hD with ⟨e1, e2⟩ | ⟨e1, T, o, its, nn, e2, lT, oT, rT⟩
  · subst e1
    refine fin [] mv .nil rm fun s us ws kin l1 l2 => ?_
    obtain ⟨h1, _⟩ := h dV kV doc pm an cdv ct us mv ws l1 lm l2
    obtain ⟨h2, h3⟩ := h1 rfl e2
    rcases hkk with z | ⟨D, z, hq⟩
    · exact .of_eq (h2 z)
    · exact BindsTo.of_looks fun M => KwChain.looks kin hq (h3 D z)
  · refine fin its mv rT rm fun s us ws kin l1 l2 => ?_
    obtain ⟨_, h1⟩ := h dV kV doc pm an cdv ct us mv ws l1 lm l2
    obtain ⟨kk, h2, h3, h4⟩ := h1 e1 T its e2 rT.length.symm
    subst e2
    refine BindsTo.of_looks fun M => ?_
    rw [h2]
    rcases hkk with z | ⟨D, z, hq⟩
    · exact looks_items kin lT oT (.of_pure (h3 z))
    · exact looks_items kin lT oT (KwChain.looks kin hq (h4 D z))
end
/-- a def of the program with its promise -/
structure Df (P : Program) (w : World) (mg : Str → Option Value) (base : Heap) (k : Kx) (n : Nat) (d : He.DefD) (ps : List Str) (F : List D → MH → Out D) : Prop where
  ex : ∃ fd, FnM P w mg base k n (He.fAd k.K d.at_) fd ps F ∧ FunD k.K d.name d.qual d.params d.body d.scope (d.dvs k.K) (d.kws k.K) (He.fAd k.K d.at_) fd
theorem df_of {P : Program} {w : World} {mg : Str → Option Value} {base : Heap} {k : Kx} {n : Nat} {d : He.DefD} {ps N : List Str} {g : GS} {fd : FuncData} (F : FunD k.K d.name d.qual d.params d.body d.scope (d.dvs k.K) (d.kws k.K) (He.fAd k.K d.at_) fd) (S : FnScope N ps d.scope)
    (hb : ∀ (cdv : Value) (A : Around) (outer : List Env) (s : Shared) (H : Hp) (E : XK), At (cxOf (L2.CX P w) P w k.K mg base N d.qual d.scope (He.fAd k.K d.at_) cdv A outer s H E) (fun c d _ H' => E c d H') k n →
      SSs (cxOf (L2.CX P w) P w k.K mg base N d.qual d.scope (He.fAd k.K d.at_) cdv A outer s H E) (fun c d _ H' => E c d H') k d.body g) : Df P w mg base k (n + 1) d ps (fnD N.length g) := by
  refine ⟨fd, ?_, F⟩
  obtain ⟨oc, od, dV, kV, doc, pm, an, cdv, ct, osl, rfl, lk, hcd, _, _⟩ := F.ex
  exact FnM.of lk hcd S fun A outer s H E => hb cdv A outer s H E
/-- the picks with the defaults in -/
def pD (l : List Pk) (dD mD us ws : List D) : List D := pks l us dD mD ws
/-- a program without classes -/
def kx (K : PySem.W.Frag) : Kx := ⟨K, fun _ => .non, fun _ => 0, fun _ => .none⟩
theorem tab_rv {k : Kx} {a : Addr} {vs : List V} {ds : List D} {r : List Addr} {H : Hp} (h : SqT k.K (fun _ => none) a vs) (c : ∀ r H, RVs k r H ds vs) : RV k r H (.tup ds) (.ref a) := ⟨a, vs, rfl, .inr h, c r H⟩
theorem FunD.uniq {K : PySem.W.Frag} {x qual : Str} {params : Arguments} {body : List Stmt} {scope : Scope} {dvs : List V} {kws : List (Str × V)} {f : Addr} {fd fd2 : FuncData} (F : FunD K x qual params body scope dvs kws f fd)
    (G : FunD K x qual params body scope dvs kws f fd2) : fd = fd2 := by
  obtain ⟨_, _, _, _, _, _, _, _, _, _, _, l1, _⟩ := F.ex
  obtain ⟨_, _, _, _, _, _, _, _, _, _, _, l2, _⟩ := G.ex
  rw [l1] at l2
  cases l2
  rfl
end Mn
end

section
/-! Mini, part M, more: constants that are tuples of tuples. -/
namespace Mn
open PySem PySem.Spec PyProof.Rows L2
mutual
def tabB (K : PySem.W.Frag) : D → Value → Bool
  | .non, .none => true
  | .bl a, .bool b => a == b
  | .int i, .int j _ => decide (i = j)
  | .str x, .str y _ => decide (tx x = y)
  | .tup xs, .ref a => match K.lookup a with
    | some ⟨.type c, _, .seq its _, _⟩ => decide (c = "tuple") && (decide (its.size ≤ sizeLine) && tabBs K xs its.toList)
    | _ => false
  | _, _ => false
def tabBs (K : PySem.W.Frag) : List D → List Value → Bool
  | [], [] => true
  | d :: ds, v :: vs => tabB K d v && tabBs K ds vs
  | _, _ => false
end
mutual
theorem tabB_ok {K : PySem.W.Frag} : ∀ (d : D) (v : Value), tabB K d v = true → ∃ u : V, RelV u v ∧ ∀ r H, RV (kx K) r H d u
  | .non, v, h => by
    cases v <;> first | exact ⟨.non, rfl, fun _ _ => rfl⟩ | cases h
  | .bl a, v, h => by
    cases v <;> first | cases h | skip
    rename_i b
    have e : a = b := by simpa [tabB] using h
    subst e
    exact ⟨.bl a, rfl, fun _ _ => rfl⟩
  | .int i, v, h => by
    cases v <;> first | cases h | skip
    rename_i j t
    have e : i = j := of_decide_eq_true h
    subst e
    exact ⟨.int i, ⟨t, rfl⟩, fun _ _ => rfl⟩
  | .str x, v, h => by
    cases v <;> first | cases h | skip
    rename_i y t
    have e : tx x = y := of_decide_eq_true h
    subst e
    exact ⟨.str (tx x), ⟨t, rfl⟩, fun _ _ => rfl⟩
  | .tup xs, v, h => by
    cases v <;> first | cases h | skip
    rename_i a
    unfold tabB at h
    cases q : K.lookup a with
    | none =>
      rw [q] at h
      cases h
    | some o =>
      obtain ⟨oc, od, dt, osl⟩ := o
      rw [q] at h
      cases oc with
      | type c =>
        cases dt with
        | seq its n =>
          obtain ⟨h1, h2⟩ := He.ba (show (decide (c = "tuple") && (decide (its.size ≤ sizeLine) && tabBs K xs its.toList)) = true from h)
          obtain ⟨h3, h4⟩ := He.ba h2
          obtain ⟨us, rv, hv⟩ := tabBs_ok xs its.toList h4
          exact ⟨.ref a, rfl, fun r H => ⟨a, us, rfl, .inr (.inr ⟨_, its, n, q, congrArg Value.type (of_decide_eq_true h1), rfl, of_decide_eq_true h3, rv⟩), hv r H⟩⟩
        | _ => cases h
      | _ => cases dt <;> cases h
  | .frl xs, v, h => by cases v <;> cases h
  | .ref n, v, h => by cases v <;> cases h
  | .cst n, v, h => by cases v <;> cases h
theorem tabBs_ok {K : PySem.W.Frag} : ∀ (ds : List D) (vs : List Value), tabBs K ds vs = true → ∃ us : List V, Vals us vs ∧ ∀ r H, RVs (kx K) r H ds us
  | [], [], _ => ⟨[], .nil, fun _ _ => rfl⟩
  | d :: ds, v :: vs, h => by
    obtain ⟨h1, h2⟩ := He.ba (show (tabB K d v && tabBs K ds vs) = true from h)
    obtain ⟨u, ru, hu⟩ := tabB_ok d v h1
    obtain ⟨us, rus, hus⟩ := tabBs_ok ds vs h2
    exact ⟨u :: us, .cons ru rus, fun r H => ⟨u, us, rfl, hu r H, hus r H⟩⟩
  | [], _ :: _, h => by cases h
  | _ :: _, [], h => by cases h
end
theorem tab_ref {K : PySem.W.Frag} {d : D} {a : Addr} (h : tabB K d (.ref a) = true) : ∀ r H, RV (kx K) r H d (.ref a) := by
  obtain ⟨u, ru, hu⟩ := tabB_ok d (.ref a) h
  cases u <;> first | (cases ru; exact hu) | (obtain ⟨t, e⟩ := ru; cases e) | cases ru
/-! a, b = x, y: stored from the right -/
def par2 (i j : Nat) (ds : List D) (f : Fr) (m : MH) : SO := match ds with
  | [a, b] => .go .nx ((f.set i (some a)).set j (some b)) m
  | _ => .no
def sPar2 (i j : Nat) (t : Fr → MH → Out (List D)) : GS := fun f m => SO.of f (t f m) fun ds m1 => par2 i j ds f m1
section
variable {X : Cx} {W : WX} {k : Kx} {n : Nat} {pos : Pos}
theorem ss_par2 {i j : Nat} {x y : Str} {a b : Expr} {t : Fr → MH → Out (List D)} {px py pt : Pos} {kt k2 pt2} (A : At X W k n) (ha : SA X W k [a, b] t) (hij : i ≠ j := by decide) (hi : X.N[i]? = some x := by rfl) (hj : X.N[j]? = some y := by rfl)
    (hx : X.env.scope.names.lookup x = some .local := by rfl) (hy : X.env.scope.names.lookup y = some .local := by rfl)
    (hw : swappedStores [.Tuple [.Name x px, .Name y py] kt pt] (.Tuple [a, b] k2 pt2) X.env = pure (some [x, y]) := by rfl)
    (hs : swapsWithSole [.Tuple [.Name x px, .Name y py] kt pt] (.Tuple [a, b] k2 pt2) pos.line X.env = pure false := by rfl) :
    SS X W k (.Assign [.Tuple [.Name x px, .Name y py] kt pt] (.Tuple [a, b] k2 pt2) pos) (sPar2 i j t) := by
  refine ⟨fun pins s σ H E I hh => (ps_par (pos := pos) A.calm A.nd hi hj hij hx hy ha hw hs).run pins s σ H E I ?_⟩
  refine tS_bind (h := fun ds f m1 => par2 i j ds f m1) hh fun ds r f m vs H1 hf hr hv q => ?_
  match ds, hv, q with
  | [a, b], hv, q =>
    obtain ⟨v, t1, e1, hva, hvb⟩ := hv
    obtain ⟨w, t2, e2, hwb, e3⟩ := hvb
    have e3 : t2 = [] := e3
    subst e3
    subst e2
    subst e1
    exact ⟨v, w, rfl, FiS.nx q hr ((hf.set i hva).set j hwb)⟩
  | [], _, q => exact q.elim
  | [_], _, q => exact q.elim
  | _ :: _ :: _ :: _, _, q => exact q.elim
end
end Mn
end

section
/-! Mini, part N: sorted, dict copies. -/
namespace Mn
open PySem PySem.Spec PyProof.Rows L2

/-- the keyword default x of the def at f, an object -/
def kwdA (f : Str × Option Str) (x : Str) (K : PySem.W.Frag) : Addr := match K.lookup (He.fAd K f) with
  | some ⟨_, _, .func fd, _⟩ => (match fd.kwdefaults with
    | .ref D => (match PySem.W.nsIn K D x with
      | some (some (.ref a)) => a
      | _ => 0)
    | _ => 0)
  | _ => 0
/-! ### sorting plainly -/
def insO {α : Type} (le : α → α → Bool) (x : α) : List α → List α
  | [] => [x]
  | y :: l => if le x y then x :: y :: l else y :: insO le x l
def sortO {α : Type} (le : α → α → Bool) : List α → List α
  | [] => []
  | x :: l => insO le x (sortO le l)
section
variable {α : Type} {le : α → α → Bool}
theorem insO_perm (x : α) : ∀ l : List α, (insO le x l).Perm (x :: l)
  | [] => .refl _
  | y :: l => by
    unfold insO
    split
    · exact .refl _
    · exact ((insO_perm x l).cons y).trans (.swap x y l)
theorem sortO_perm : ∀ l : List α, (sortO le l).Perm l
  | [] => .refl _
  | x :: l => (insO_perm x _).trans ((sortO_perm l).cons x)
theorem insO_sorted (tr : ∀ a b c, le a b = true → le b c = true → le a c = true) (to : ∀ a b, le a b = true ∨ le b a = true) (x : α) : ∀ l : List α, l.Pairwise (fun a b => le a b = true) → (insO le x l).Pairwise (fun a b => le a b = true)
  | [], _ => List.pairwise_singleton _ _
  | y :: l, h => by
    obtain ⟨h1, h2⟩ := List.pairwise_cons.mp h
    unfold insO
    split
    · rename_i hx
      refine List.pairwise_cons.mpr ⟨fun z hz => ?_, h⟩
      rcases List.mem_cons.mp hz with e | hz
      · rw [e]
        exact hx
      · exact tr x y z hx (h1 z hz)
    · rename_i hx
      refine List.pairwise_cons.mpr ⟨fun z hz => ?_, insO_sorted tr to x l h2⟩
      rcases List.mem_cons.mp ((insO_perm x l).mem_iff.mp hz) with e | hz
      · rw [e]
        exact (to x y).resolve_left hx
      · exact h1 z hz
theorem sortO_sorted (tr : ∀ a b c, le a b = true → le b c = true → le a c = true) (to : ∀ a b, le a b = true ∨ le b a = true) : ∀ l : List α, (sortO le l).Pairwise (fun a b => le a b = true)
  | [] => .nil
  | x :: l => insO_sorted tr to x _ (sortO_sorted tr to l)
theorem sortO_uniq (tr : ∀ a b c, le a b = true → le b c = true → le a c = true) (to : ∀ a b, le a b = true ∨ le b a = true) (an : ∀ a b, le a b = true → le b a = true → a = b) {l l2 : List α} (p : l2.Perm l) (h : l2.Pairwise (fun a b => le a b = true)) : l2 = sortO le l :=
  List.Perm.eq_of_pairwise (le := fun a b => le a b = true) (fun a b _ _ => an a b) h (sortO_sorted tr to l) (p.trans (sortO_perm l).symm)
end
def leI (a b : Int) : Bool := decide (a ≤ b)
def leT (a b : Tx) : Bool := !decide (b < a)
theorem leT_iff {a b : Tx} : leT a b = true ↔ a ≤ b := by
  unfold leT
  rw [Bool.not_eq_true', decide_eq_false_iff_not]
  exact Iff.rfl
def isort : List Int → List Int := sortO leI
def tsort : List Tx → List Tx := sortO leT
theorem isort_uniq {l l2 : List Int} (p : l2.Perm l) (h : l2.Pairwise (· ≤ ·)) : l2 = isort l :=
  sortO_uniq (le := leI) (fun a b c h1 h2 => decide_eq_true (Int.le_trans (of_decide_eq_true h1) (of_decide_eq_true h2))) (fun a b => (Int.le_total a b).elim (fun h => .inl (decide_eq_true h)) fun h => .inr (decide_eq_true h))
    (fun a b h1 h2 => Int.le_antisymm (of_decide_eq_true h1) (of_decide_eq_true h2)) p (h.imp fun h => decide_eq_true h)
theorem tsort_uniq {l l2 : List Tx} (p : l2.Perm l) (h : l2.Pairwise (fun a b => leT a b = true)) : l2 = tsort l :=
  sortO_uniq (le := leT) (fun a b c h1 h2 => leT_iff.mpr (List.le_trans (leT_iff.mp h1) (leT_iff.mp h2))) (fun a b => (List.le_total a b).elim (fun h => .inl (leT_iff.mpr h)) fun h => .inr (leT_iff.mpr h))
    (fun a b h1 h2 => List.le_antisymm (leT_iff.mp h1) (leT_iff.mp h2)) p h
theorem rising_pair : ∀ (ys : List Str) (p : Str), risingS p ys = true → ((p :: ys).map fun z => z.cps.toList).Pairwise (fun a b => leT a b = true)
  | [], p, _ => List.pairwise_singleton _ _
  | y :: ys, p, h => by
    have h : (!ltCps y.cps.toList p.cps.toList && risingS y ys) = true := h
    rw [Bool.and_eq_true, ltCps_eq] at h
    have ih := rising_pair ys y h.2
    rw [List.map_cons] at ih ⊢
    refine List.pairwise_cons.mpr ⟨fun z hz => ?_, ih⟩
    have h1 : leT p.cps.toList y.cps.toList = true := h.1
    rcases List.mem_cons.mp hz with e | hz
    · rw [e]
      exact h1
    · exact leT_iff.mpr (List.le_trans (leT_iff.mp h1) (leT_iff.mp ((List.pairwise_cons.mp ih).1 z hz)))
theorem sortedS_pair : ∀ {ys : List Str}, sortedS ys = true → (ys.map fun z => z.cps.toList).Pairwise (fun a b => leT a b = true)
  | [], _ => .nil
  | y :: ys, h => rising_pair ys y h
theorem sorted_tx {ys : List Str} {xs : List Tx} (p : ys.Perm (xs.map tx)) (h : sortedS ys = true) : ys = (tsort xs).map tx := by
  have e : (ys.map fun z => z.cps.toList) = tsort xs := by
    refine tsort_uniq ?_ (sortedS_pair h)
    have := p.map fun z : Str => z.cps.toList
    rw [List.map_map] at this
    have e2 : (xs.map ((fun z : Str => z.cps.toList) ∘ tx)) = xs := by
      have : ((fun z : Str => z.cps.toList) ∘ tx) = id := by
        funext x
        rfl
      rw [this, List.map_id]
    rw [e2] at this
    exact this
  rw [← e, List.map_map]
  have : (tx ∘ fun z : Str => z.cps.toList) = id := by
    funext z
    exact tx_cps z
  rw [this, List.map_id]

def sortF : List D → MH → Opt D
  | [.ref a], m => match m[a]? with
    | some (.lst xs) => match intsOf xs with
      | some js => some (.ref m.length, m ++ [.lst ((isort js).map .int)])
      | none => match txsOf xs with
        | some ys => if ys.length < 64 then some (.ref m.length, m ++ [.lst ((tsort ys).map .str)]) else none
        | none => none
    | some (.dct kvs) => if kvs.length < 64 then match intsOf (kvs.map fun kv => keyD kv.1) with
        | some js => some (.ref m.length, m ++ [.lst ((isort js).map .int)])
        | none => match txsOf (kvs.map fun kv => keyD kv.1) with
          | some ys => some (.ref m.length, m ++ [.lst ((tsort ys).map .str)])
          | none => none
      else none
    | _ => none
  | _, _ => none
def dctF : List D → MH → Opt D
  | [.ref a], m => match m[a]? with
    | some (.dct kvs) => some (.ref m.length, m ++ [.dct kvs])
    | _ => none
  | _, _ => none
section
variable {X : Cx} {W : WX} {k : Kx} {n : Nat}
theorem txs_rvN {r : List Addr} {H : Hp} : ∀ {ds : List D} {vs : List V} {ys : List Tx}, RVs k r H ds vs → txsOf ds = some ys → vs = ys.map fun y => V.str (tx y)
  | [], _, ys, h, e => by
    obtain rfl : _ = [] := h
    cases e
    rfl
  | d :: ds, _, ys, ⟨y, t, e0, h1, h2⟩, e => by
    subst e0
    unfold txsOf at e
    split at e
    · rename_i x l e1 e2
      cases e
      cases d <;> first | cases e1 | skip
      obtain rfl : y = _ := h1
      rw [txs_rvN h2 e2]
      rfl
    · cases e
theorem ints_list {r : List Addr} {H : Hp} : ∀ js : List Int, RVs k r H (js.map D.int) (js.map V.int)
  | [] => rfl
  | j :: js => ⟨_, _, rfl, rfl, ints_list js⟩
theorem strs_list {r : List Addr} {H : Hp} : ∀ ys : List Tx, RVs k r H (ys.map D.str) ((ys.map tx).map V.str)
  | [] => rfl
  | y :: ys => ⟨_, _, rfl, rfl, strs_list ys⟩
theorem keysI {r : List Addr} {H : Hp} : ∀ {kvs : List (DK × D)} {vs : List (Key × V)} {js : List Int}, RKs k r H kvs vs → intsOf (kvs.map fun kv => keyD kv.1) = some js → vs.map (·.1) = js.map Sum.inl ∧ js.length = kvs.length
  | [], _, js, h, e => by
    obtain rfl : _ = [] := h
    cases e
    exact ⟨rfl, rfl⟩
  | (j, d) :: kvs, _, js, ⟨y, t, e0, h1, h2⟩, e => by
    subst e0
    cases j with
    | inr x => cases e
    | inl i =>
      have e : (intsOf (kvs.map fun kv => keyD kv.1)).map (i :: ·) = some js := e
      cases e2 : intsOf (kvs.map fun kv => keyD kv.1) with
      | none =>
        rw [e2] at e
        cases e
      | some l =>
        rw [e2] at e
        cases e
        obtain ⟨a, b⟩ := keysI h2 e2
        exact ⟨by rw [List.map_cons, List.map_cons, a]; rfl, by rw [List.length_cons, List.length_cons, b]⟩
theorem keysT {r : List Addr} {H : Hp} : ∀ {kvs : List (DK × D)} {vs : List (Key × V)} {ys : List Tx}, RKs k r H kvs vs → txsOf (kvs.map fun kv => keyD kv.1) = some ys → vs.map (·.1) = (ys.map tx).map Sum.inr ∧ ys.length = kvs.length
  | [], _, ys, h, e => by
    obtain rfl : _ = [] := h
    cases e
    exact ⟨rfl, rfl⟩
  | (j, d) :: kvs, _, ys, ⟨y, t, e0, h1, h2⟩, e => by
    subst e0
    cases j with
    | inl x => cases e
    | inr i =>
      have e : (match txOf (.str i), txsOf (kvs.map fun kv => keyD kv.1) with | some x, some xs => some (x :: xs) | _, _ => none) = some ys := e
      cases e2 : txsOf (kvs.map fun kv => keyD kv.1) with
      | none =>
        rw [e2] at e
        cases e
      | some l =>
        rw [e2] at e
        cases e
        obtain ⟨a, b⟩ := keysT h2 e2
        exact ⟨by rw [List.map_cons, List.map_cons, List.map_cons, a]; rfl, by rw [List.length_cons, List.length_cons, b]⟩
theorem cr_sortF (A : At X W k n) : CallR X (.builtin "sorted") (rN k sortF) := by
  intro pins s σ H xs us Q I rs h
  obtain ⟨r, m, ds, hr, hds, q⟩ := h
  unfold sortF at q
  split at q
  · obtain ⟨w, rfl, a, rfl, ea⟩ := rv1 hds
    split at q
    · rename_i xs hx
      obtain ⟨ys, hy, hv⟩ := hr.ob _ _ a hx ea
      split at q
      · rename_i js hj
        have e := ints_rv hv hj
        subst e
        refine cr_sortedI pins s σ H _ us Q I rs ⟨a, js, rfl, .of hy, fun ns p hp hs hn => ?_⟩
        rw [isort_uniq hp hs]
        exact new_lst q hr (ints_list _) p hn
      · split at q
        · rename_i ys2 hj
          split at q
          · rename_i hl
            have e := txs_rvN hv hj
            have e : ys = (ys2.map tx).map V.str := by
              rw [e, List.map_map]
              rfl
            subst e
            refine cr_sortedS pins s σ H _ us Q I rs ⟨a, ys2.map tx, rfl, .of hy, by rw [List.length_map]; exact hl, fun zs p hp hs hn => ?_⟩
            rw [sorted_tx hp hs]
            exact new_lst q hr (strs_list _) p hn
          · exact q.elim
        · exact q.elim
    · rename_i kvs hx
      obtain ⟨ys, hy, hv⟩ := hr.ob _ _ a hx ea
      split at q
      · rename_i hl
        split at q
        · rename_i js hj
          obtain ⟨e1, e2⟩ := keysI hv hj
          refine call_sortedDI A.calm pins s σ H _ us Q I rs ⟨a, ys, js, rfl, .of hy, e1, by rw [e2]; exact hl, fun ns p hp hs hn => ?_⟩
          rw [isort_uniq hp hs]
          exact new_lst q hr (ints_list _) p hn
        · split at q
          · rename_i ys2 hj
            obtain ⟨e1, e2⟩ := keysT hv hj
            refine call_sortedD A.calm pins s σ H _ us Q I rs ⟨a, ys, ys2.map tx, rfl, .of hy, e1, by rw [List.length_map, e2]; exact hl, fun zs p hp hs hn => ?_⟩
            rw [sorted_tx hp hs]
            exact new_lst q hr (strs_list _) p hn
          · exact q.elim
      · exact q.elim
    · exact q.elim
  · exact q.elim
theorem cr_dct : CallR X (.type "dict") (rN k dctF) := by
  intro pins s σ H xs us Q I rs h
  obtain ⟨r, m, ds, hr, hds, q⟩ := h
  unfold dctF at q
  split at q
  · obtain ⟨w, rfl, a, rfl, ea⟩ := rv1 hds
    split at q
    · rename_i kvs hx
      obtain ⟨ys, hy, hv⟩ := hr.ob _ _ a hx ea
      refine call_dictD pins s σ H _ us Q I rs ⟨a, ys, rfl, .of hy, fun p hp => ?_⟩
      refine q (r ++ [p]) (.ref p) _ (List.prefix_append r [p]) (.new hp) (hr.new hp ⟨ys, upd_same, RKs.more (List.prefix_append r [p]) (.new hp) _ _ hv⟩) ⟨p, rfl, ?_⟩
      rw [← hr.len, List.getElem?_append_right (Nat.le_refl _), Nat.sub_self]
      rfl
    · exact q.elim
  · exact q.elim
end
end Mn
end

section
/-! Mini, part O: e[::-1]; statements that are never reached. -/
namespace HT2
open PySem PySem.Spec PyProof.Rows HT
section
variable {prog : Program} {w : World} {A : Around} {E : Value → Shared → Prop} {s : Shared}
theorem rev_applied {sl : Addr} {vs : Value} {n : Nat} {Q : Int × Int × Nat → Shared → Prop} (hs : s.heap.IsSliceOf sl .none .none vs) (ps : IsPart vs (some (-1)))
    (h : Q ((n : Int) - 1, -1, n) s) : wpAny (model prog w) A (Builtin.Slice.sliceApplied (.ref sl) (pure (n : Int))) Q E s := by
  obtain ⟨os, hos, hcs, hds⟩ := id hs
  unfold Builtin.Slice.sliceApplied Builtin.Slice.sliceFields
  refine wpAny_bind (wpAny_bind (wpAny_field hos hds (x := .none) rfl (wpAny_bind (wpAny_field hos hds (x := .none) rfl (wpAny_bind (wpAny_field hos hds (x := vs) rfl (wpAny_pure ?_)))))))
  refine wpAny_bind (slicePart_ ps ?_)
  show wpAny _ _ (if ((-1 : Int) == 0) = true then _ else _) _ _ s
  rw [if_neg (by decide)]
  refine wpAny_bind (slicePart_none (wpAny_bind (slicePart_none (wpAny_bind (wpAny_pure ?_)))))
  have e : Builtin.Slice.sliceAdjust none none (-1) (n : Int) = ((n : Int) - 1, -1) := rfl
  have e2 : Builtin.Slice.slicePlaces ((n : Int) - 1) (-1) (-1) = n := by
    unfold Builtin.Slice.slicePlaces
    have h1 : ¬ ((-1 : Int) > 0) := by decide
    simp only [h1, if_false]
    have e3 : (- -1 : Int) = 1 := by decide
    rw [e3, Int.ediv_one]
    split <;> omega
  show wpAny _ _ (match Builtin.Slice.sliceAdjust none none (-1) (n : Int) with | (lo, hi) => pure (lo, (-1 : Int), Builtin.Slice.slicePlaces lo hi (-1))) _ _ s
  rw [e]
  show wpAny _ _ (pure ((n : Int) - 1, (-1 : Int), Builtin.Slice.slicePlaces ((n : Int) - 1) (-1) (-1))) _ _ s
  rw [e2]
  exact wpAny_pure h
theorem rev_pick (xs : Array Value) : ((List.range xs.size).filterMap fun (m : Nat) => xs[(((xs.size : Int) - 1) + (m : Int) * (-1)).toNat]?).toArray = xs.toList.reverse.toArray := by
  congr 1
  refine List.ext_getElem? fun i => ?_
  have hf : ∀ l : List Nat, (∀ j ∈ l, j < xs.size) → l.filterMap (fun (m : Nat) => xs[(((xs.size : Int) - 1) + (m : Int) * (-1)).toNat]?) = l.map fun m => xs.getD (xs.size - 1 - m) .none := by
    intro l
    induction l with
    | nil => intro _; rfl
    | cons a l ih =>
      intro h
      have ha := h a List.mem_cons_self
      have e : (((xs.size : Int) - 1) + (a : Int) * (-1)).toNat = xs.size - 1 - a := by omega
      have e2 : xs[xs.size - 1 - a]? = some (xs.getD (xs.size - 1 - a) .none) := by
        have hlt : xs.size - 1 - a < xs.size := by omega
        simp [Array.getD, hlt]
      rw [List.filterMap_cons, e, e2, List.map_cons, ih fun j hj => h j (List.mem_cons_of_mem _ hj)]
  rw [hf _ fun j hj => List.mem_range.mp hj, List.getElem?_map]
  by_cases hi : i < xs.size
  · rw [List.getElem?_range hi, List.getElem?_reverse (by simpa using hi)]
    have hlt : xs.size - 1 - i < xs.size := by omega
    have : xs.toList.length - 1 - i = xs.size - 1 - i := by simp
    rw [this]
    simp [Array.getD, hlt]
  · rw [List.getElem?_eq_none (by simpa using hi), List.getElem?_eq_none (by simpa using hi)]
    rfl
theorem getItem_tuple_rev {t sl : Addr} {items : Array Value} {vs : Value} {Q : Value → Shared → Prop} (ht : IsTup s.heap t items) (hs : s.heap.IsSliceOf sl .none .none vs) (ps : IsPart vs (some (-1)))
    (h : Q (.ref s.heap.objs.size) { s with heap := s.heap.push { cls := .type "tuple", data := .seq items.toList.reverse.toArray } })
    (hsz : items.size ≤ sizeLine) : wpAny (model prog w) A (getItem (.ref t) (.ref sl)) Q E s := by
  have htake : sizeOk (.seq items.toList.reverse.toArray) := by
    show items.toList.reverse.toArray.size ≤ sizeLine
    rw [List.size_toArray, List.length_reverse, Array.length_toList]
    exact hsz
  obtain ⟨os, hos, hcs, hds⟩ := id hs
  have hTs : s.TypeIs (.ref sl) "slice" := ⟨os, hos, hcs⟩
  unfold getItem
  try with_reducible refine wpAny_holding ?_
  first | refine wpAny_bind (wpAny_pure ?_) | skip
  refine wpAny_bind (wpAny_sequenceKey ht.typeIs (by decide) ?_)
  refine wpAny_bind (wpAny_callSpecial?_slot (name := Str.ofString "__getitem__") ht.typeIs PyProof.Rows.slot_tuple_getitem
    (wpAny_call_entry PyProof.Rows.slot_tuple_getitem ht.typeIs entry_tuple_getitem ?_ (args_tuple_getitem _ _)))
  show wpAny _ _ (Builtin.Tuple.tupleItemsOf (.ref t) >>= _) _ _ s
  refine wpAny_bind (tupleItemsOf_ ht ?_)
  refine wpAny_bind (wpAny_typeOf hTs ?_)
  rw [if_pos (by decide)]
  refine wpAny_bind (rev_applied hs ps ?_)
  have hno : ¬ ((((items.size : Int) - 1) == 0 && (-1 : Int) == 1 && items.size == items.size) = true) := by
    intro q
    rw [Bool.and_eq_true, Bool.and_eq_true] at q
    exact absurd q.1.2 (by decide)
  show wpAny _ _ (if (((items.size : Int) - 1) == 0 && (-1 : Int) == 1 && items.size == items.size) = true then _ else _) _ _ s
  rw [if_neg hno, rev_pick]
  first
    | exact wpAny_bind (m := Builtin.Tuple.tupleExact _) (wpAny_newObj_type (wpAny_pure ⟨_, rfl, wpAny_pure h⟩) htake)
    | exact wpAny_bind (m := Builtin.Tuple.tupleExact _) (wpAny_newObj_type (wpAny_bind (wpAny_pure (wpAny_pure ⟨_, rfl, wpAny_pure h⟩))) htake)
    | exact wpAny_bind (wpAny_bind (m := Builtin.Tuple.tupleExact _) (wpAny_newObj_type (wpAny_pure (wpAny_pure ⟨_, rfl, wpAny_pure h⟩)) htake))
    | exact wpAny_bind (wpAny_bind (m := Builtin.Tuple.tupleExact _) (wpAny_newObj_type (wpAny_pure ⟨_, rfl, wpAny_pure h⟩) htake))
end
end HT2
namespace Mn
open PySem PySem.Spec PyProof.Rows L2
/-! ### e[::-1] -/
def tRevA (K : PySem.W.Frag) (te : TE) : TE := fun σ H Q => te σ H fun x H1 =>
  (∃ a xs, x = .ref a ∧ SqL K H1 a xs ∧ ∀ p, H1 p = none → Q (.ref p) (upd H1 p (.lst xs.reverse))) ∨
  (∃ a xs, x = .ref a ∧ SqT K H1 a xs ∧ ∀ p, H1 p = none → Q (.ref p) (upd H1 p (.tup xs.reverse))) ∨
  (∃ z : Str, x = .str z ∧ z.length ≤ sizeLine ∧ Q (.str (tx z.cps.toList.reverse)) H1)
theorem sliceBy_rev (x : Str) (u : Tok) : Txt.sliceBy x none none (-1, u) = tx x.cps.toList.reverse := by
  have h := step_rev_list x u
  have e : (Txt.sliceBy x none none (-1, u)).cps.toList = x.cps.toList.reverse := by
    rw [h]
    refine List.ext_getElem? fun i => ?_
    rw [List.getElem?_map]
    by_cases hi : i < x.length
    · have hlt : x.length - 1 - i < x.length := by omega
      have hl : x.cps.toList.length = x.length := by simp [Str.length]
      rw [List.getElem?_range hi, List.getElem?_reverse (by rw [hl]; exact hi), hl]
      have h2 : x.length - 1 - i < x.cps.size := hlt
      simp [Array.getD, h2]
    · have hl : x.cps.toList.length = x.length := by simp [Str.length]
      rw [List.getElem?_eq_none (by simpa using hi), List.getElem?_eq_none (by rw [List.length_reverse, hl]; omega)]
      rfl
  rw [← tx_cps (Txt.sliceBy x none none (-1, u)), e]
theorem pe_revA {X : Cx} {e : Expr} {te : TE} {k : Nat} {p1 p2 p3 pos : Pos} (he : PE X e te) : PE X (.Subscript e (.Slice none none (some (.UnaryOp .USub (.Constant (.int 1) k p1) p2)) p3) pos) (tRevA X.K te) := by
  refine ⟨fun pins s σ H Q I h => ?_⟩
  refine Subscript_ (thn (he.run pins s σ H _ I h) fun v s1 ⟨x, H1, I1, r1, q1⟩ => ?_)
  have hst : PO X (some (.UnaryOp .USub (.Constant (.int 1) k p1) p2)) (tPart (tUn (rU fun i => .int (-i)) (tC (.int 1)))) := po_some (pe_un un_neg pe_int)
  refine wpAny_Slice (thn (po_none.run pins s1 σ H1 (fun o H2 => o = none ∧ H2 = H1) I1 ⟨rfl, rfl⟩) fun vl s2 ⟨l, H2, I2, pl, el, e2⟩ => ?_)
  subst el e2
  refine thn (po_none.run pins s2 σ H2 (fun o H3 => o = none ∧ H3 = H2) I2 ⟨rfl, rfl⟩) fun vu s3 ⟨u, H3, I3, pu, eu, e3⟩ => ?_
  subst eu e3
  refine thn (hst.run pins s3 σ H3 (fun o H4 => o = some (-1) ∧ H4 = H3) I3 ⟨1, rfl, -1, rfl, rfl, rfl⟩) fun vs s4 ⟨o, H4, I4, ps, eo, e4⟩ => ?_
  subst eo e4
  have I5 : Inv X pins σ H4 { s4 with heap := s4.heap.push { cls := .type "slice", data := .fields #[vl, vu, vs] } } := I4.kept (t' := s4.toks) fun b ob q => Heap.get?_push_of_some _ q
  rcases q1 with ⟨a, xs, ex, hx, q⟩ | ⟨a, xs, ex, hx, q⟩ | ⟨z, ex, hz, q⟩
  · subst ex
    cases r1
    obtain ⟨its, r, ht, hz⟩ := I5.list hx
    have hlen := r.length
    show wpAny (model X.prog X.w) X.A (subscriptTail e (.Slice none none (some (.UnaryOp .USub (.Constant (.int 1) k p1) p2)) p3) (.ref a) (.ref s4.heap.objs.size)) (EP X pins σ Q) X.xe { s4 with heap := s4.heap.push { cls := .type "slice", data := .fields #[vl, vu, vs] } }
    refine tail_any (ops := [.ref a, .ref s4.heap.objs.size]) ht.isList.typeIs (PySem.slot_list_getitem.lookup) ?_ (by with_unfolding_all rfl)
    refine wpAny_getItem_list_slice ht.isList (Heap.IsSliceOf.new _ vl vu vs) pl pu ps (by decide) ?_ (by rw [List.size_toArray]; omega)
    rw [PySem.W.krv_pick]
    refine ⟨.ref _, _, I5.laid (t' := s4.toks) (o := .lst xs.reverse) (fun b ob q => Heap.get?_push_of_some _ q) (Nat.le_refl _) ?_, rfl, q _ (I5.hok.fresh (Nat.le_refl _))⟩
    exact ⟨by rw [List.length_reverse]; exact hz, _, 0, r.reverse, Heap.get?_push_size _ rfl⟩
  · subst ex
    cases r1
    cases pl
    cases pu
    obtain ⟨its, r, ht, hz⟩ := I5.tuple hx
    have hlen := r.length
    show wpAny (model X.prog X.w) X.A (subscriptTail e (.Slice none none (some (.UnaryOp .USub (.Constant (.int 1) k p1) p2)) p3) (.ref a) (.ref s4.heap.objs.size)) (EP X pins σ Q) X.xe { s4 with heap := s4.heap.push { cls := .type "slice", data := .fields #[.none, .none, vs] } }
    refine tail_any (ops := [.ref a, .ref s4.heap.objs.size]) ht.typeIs (PyProof.Rows.slot_tuple_getitem.lookup) ?_ (by with_unfolding_all rfl)
    refine HT2.getItem_tuple_rev ht (Heap.IsSliceOf.new _ .none .none vs) ps ?_ (by rw [List.size_toArray]; omega)
    refine ⟨.ref _, _, I5.laid (t' := s4.toks) (o := .tup xs.reverse) (fun b ob q => Heap.get?_push_of_some _ q) (Nat.le_refl _) ?_, rfl, q _ (I5.hok.fresh (Nat.le_refl _))⟩
    exact ⟨by rw [List.length_reverse]; exact hz, _, r.reverse, IsTup.new _ _⟩
  · subst ex
    obtain ⟨t, rfl⟩ := r1
    cases pl
    cases pu
    obtain ⟨st, e5, e6⟩ := IsPart.raw ps
    obtain ⟨ui, e7⟩ : ∃ ui, st = some (-1, ui) := by
      cases st with
      | none => cases e6
      | some p =>
        obtain ⟨i, ui⟩ := p
        have : (-1 : Int) = i := by simpa using e6.symm
        subst this
        exact ⟨ui, rfl⟩
    subst e7
    subst e5
    show wpAny (model X.prog X.w) X.A (subscriptTail e (.Slice none none (some (.UnaryOp .USub (.Constant (.int 1) k p1) p2)) p3) (.str z t) (.ref s4.heap.objs.size)) (EP X pins σ Q) X.xe { s4 with heap := s4.heap.push { cls := .type "slice", data := .fields #[.none, .none, _] } }
    refine tail_any (ops := [.str z t, .ref s4.heap.objs.size]) (typeIs_str _ _ _) F.slot_str_getitem.lookup ?_ (by with_unfolding_all rfl)
    refine wpAny_getItem_str_slice (l := none) (u := none) (st := some (-1, ui)) ⟨_, Heap.get?_push_size _ rfl, rfl, rfl⟩ rfl ?_
    have e8 := sliceBy_rev z ui
    have hl := step_rev_len z ui
    rw [← e8] at q
    have hl2 : (Txt.sliceBy z none none (-1, ui)).length ≤ sizeLine := by rw [hl]; exact hz
    show Made.post (if (((-1 : Int)) == 1 && (Builtin.Str.strSliceIndices none none (-1) z.length).length == z.length) = true then Made.val (.str z t)
      else Made.str ⟨((Builtin.Str.strSliceIndices none none (-1) z.length).filterMap (z.cps[·]?)).toArray⟩) (EP X pins σ Q) _
    rw [if_neg (by rw [Bool.and_eq_true]; exact fun c => absurd c.1 (by decide))]
    have e9 : Txt.sliceBy z none none (-1, ui) = ⟨((Builtin.Str.strSliceIndices none none (-1) z.length).filterMap (z.cps[·]?)).toArray⟩ := by
      unfold Txt.sliceBy slicePicked
      have h1 : ¬ (((((some ((-1 : Int), ui)).map (·.1)).getD 1 == 1) && ((Builtin.Str.strSliceIndices ((none : Option (Int × Tok)).map (·.1)) ((none : Option (Int × Tok)).map (·.1)) (((some ((-1 : Int), ui)).map (·.1)).getD 1) z.length).length == z.length)) = true) := by
        have : ((((some ((-1 : Int), ui)).map (·.1)).getD 1 == 1)) = false := rfl
        rw [this]; simp
      rw [if_neg h1]
      rfl
    rw [← e9]
    exact ⟨hl2, .str _, H4, I5.tok _, ⟨_, rfl⟩, q⟩
def revD : D → MH → Opt D
  | .ref a, m => match m[a]? with
    | some (.lst xs) => some (.ref m.length, m ++ [.lst xs.reverse])
    | _ => none
  | .frl xs, m => some (.ref m.length, m ++ [.lst xs.reverse])
  | .tup xs, m => some (.tup xs.reverse, m)
  | .str x, m => if x.length ≤ 100000 then some (.str x.reverse, m) else none
  | _, _ => none
section
variable {X : Cx} {W : WX} {k : Kx} {n : Nat} {pos : Pos}
theorem se_rev {e : Expr} {kk : Nat} {p1 p2 p3 : Pos} {g : Fr → MH → Out D} (A : At X W k n) (he : SE X W k e g) : SE X W k (.Subscript e (.Slice none none (some (.UnaryOp .USub (.Constant (.int 1) kk p1) p2)) p3) pos) (gUn revD g) := by
  refine ⟨fun pins s σ H Q I h => (pe_revA he).run pins s σ H Q I ?_⟩
  refine tM_bind (h := fun d _ m1 => up (revD d m1)) h fun d r f m v H1 hf hr hv q => ?_
  replace q := Fi.ok q
  unfold revD at q
  split at q
  · obtain ⟨a2, rfl, ea⟩ := hv
    split at q
    · rename_i xs hx
      obtain ⟨ys, hy, hv⟩ := hr.ob _ _ a2 hx ea
      exact .inl ⟨a2, ys, rfl, .of hy, new_lst q hr hv.rev⟩
    · exact q.elim
  · obtain ⟨a2, ys, rfl, ht, hv⟩ := hv
    exact .inl ⟨a2, ys, rfl, A.kk ▸ ht.sq, new_lst q hr hv.rev⟩
  · obtain ⟨a2, ys, rfl, ht, hv⟩ := hv
    exact .inr (.inl ⟨a2, ys, rfl, A.kk ▸ ht.sq, new_tup q hr hv.rev⟩)
  · rename_i x
    obtain rfl : _ = _ := hv
    split at q
    · rename_i hl
      exact .inr (.inr ⟨tx x, rfl, line5 hl, Ok.pure q hr (show _ = _ from rfl)⟩)
    · exact q.elim
  · exact q.elim
/-- what is never come to -/
def sNo : GS := fun _ _ => .no
theorem ss_no {st : Stmt} (h : ∀ (pins : List (Addr × Obj)) (s : Shared), True := fun _ _ => trivial) : SS X W k st sNo :=
  ⟨fun _ _ _ _ _ _ ⟨_, _, _, _, _, q⟩ => q.elim⟩
end
end Mn
end

section
/-! Mini, part O, more: e.replace of written texts, where a token is out behind e. -/
namespace Mn
open PySem PySem.Spec PyProof.Rows L2
/-- a value, and a token is out -/
structure PEQ (X : Cx) (e : Expr) (t : TE) : Prop where
  run : ∀ (pins : List (Addr × Obj)) (s : Shared) (σ : L2.St) (H : Hp) (Q : VK), L2.Inv X pins σ H s → t σ H Q → wpAny (model X.prog X.w) X.A (eval e X.env) (fun v s' => 1 ≤ s'.toks ∧ EP X pins σ Q v s') X.xe s
def SEQ (X : Cx) (W : WX) (k : Kx) (e : Expr) (g : Fr → MH → Out D) : Prop := PEQ X e (tM k (RV k) W g)
structure FnT (P : Program) (w : World) (mg : Str → Option Value) (base : Heap) (k : Kx) (n : Nat) (f : Addr) (fd : FuncData) (ps : List Str) (F : List D → MH → Out D) : Prop where
  run : ∀ (A : Around) (outer : List Env) (s : Shared) (H : Hp) (args : Args) (us : List Value) (vs : List V) (Q : VK) (E : XK) (r : List Addr) (m : MH) (ds : List D),
    Room n A → A.guards = some [] → Env0 P w k.K mg base A outer s H → BindsTo s fd args (ps.zip us) → Vals vs us → HR k r m H → RVs k r H ds vs → ds.length = ps.length → Fi k (RV k) r H (F ds m) Q E →
    codeAny (model P w) A (.call (.ref f) args) (fun res s' => (∀ v, res = .ok (.ret v) → 1 ≤ s'.toks) ∧ CR (L2.CX P w) outer P w H s Q E res s') s
section
variable {P : Program} {w : World} {mg : Str → Option Value} {base : Heap} {k : Kx} {n : Nat} {f : Addr} {fd : FuncData} {ps : List Str} {F : List D → MH → Out D}
theorem FnT.mono {n' : Nat} (G : FnT P w mg base k n f fd ps F) (h : n ≤ n') : FnT P w mg base k n' f fd ps F :=
  ⟨fun A outer s H args us vs Q E r m ds hr => G.run A outer s H args us vs Q E r m ds (hr.mono h)⟩
/-- statements behind which a token is out -/
structure SSsQ (X : Cx) (W : WX) (k : Kx) (body : List Stmt) (g : GS) : Prop where
  run : ∀ (pins : List (Addr × Obj)) (s : Shared) (σ : L2.St) (H : Hp) (D : Ends), L2.Inv X pins σ H s → tS k W g D σ H → wpAny (model X.prog X.w) X.A (execs body X.env) (fun fl s' => 1 ≤ s'.toks ∧ SP X pins D fl s') X.xe s
/-- a def behind which a token is out -/
theorem FnT.of {name qual : Str} {params : Arguments} {body : List Stmt} {scope : Scope} {dV kV doc pm cdv ct oc : Value} {an od : Option Addr} {osl : Array (Option Value)} {N : List Str} {g : GS}
    (lk : k.K.lookup f = some ⟨oc, od, .func (PySem.W.fnOf name qual params body scope dV kV doc pm an cdv ct), osl⟩) (hcd : PySem.W.codeIn k.K cdv qual = true) (S : FnScope N ps scope)
    (hb : ∀ (A : Around) (outer : List Env) (s : Shared) (H : Hp) (E : XK), At (cxOf (L2.CX P w) P w k.K mg base N qual scope f cdv A outer s H E) (fun c d _ H' => E c d H') k n →
      SSsQ (cxOf (L2.CX P w) P w k.K mg base N qual scope f cdv A outer s H E) (fun c d _ H' => E c d H') k body g) :
    FnT P w mg base k (n + 1) f (PySem.W.fnOf name qual params body scope dV kV doc pm an cdv ct) ps (fnD N.length g) := by
  refine ⟨fun A outer s H args us vs Q E r m ds hr hg e0 hbind rv hm hd hl q => ?_⟩
  have hvl : vs.length = ps.length := by rw [← hd.length, hl]
  have kin : k.K.In s.heap := e0.mod.kin.keeps fun b o e => (e0.bs b o e).1
  have lim : s.heap.NoLimit := e0.mod.nolimit.keeps fun b o e => (e0.bs b o e).1
  have hkind : ∀ y ∈ ps.zip us, scope.names.lookup y.1 = some .local ∨ (scope.names.lookup y.1 = some .cell ∧ ((cellsFrom (s.heap.objs.size + 1) scope.names []).lookup y.1).isSome = true) := by
    intro y hy
    rcases S.par y.1 (List.of_mem_zip hy).1 with z | z
    · exact Or.inl z
    · exact Or.inr ⟨z, PySem.W.cellsFrom_some _ _ _ (Or.inl z)⟩
  refine codeAny_call_function hr.depth (kin _ _ lk) rfl S.co S.gen rfl (PySem.W.codeRec_of kin hcd) (hbind _ _ _ _ ?_)
  refine wpAny_newFunctionEnv_cells S.kind hkind fun env he s1 x => ?_
  subst he
  refine ⟨lim.keeps x.toInCall.keep, codeAny_func ?_⟩
  have I : L2.Inv (cxOf (L2.CX P w) P w k.K mg base N qual scope f cdv A outer s H E) [] (start N vs) H s1 := inv_start S hr.hd e0 hvl rv x
  have A1 : At (cxOf (L2.CX P w) P w k.K mg base N qual scope f cdv A outer s H E) (fun c d _ H' => E c d H') k n := at_body S.nd hg (hr.deeper _)
  have B := hb _ _ _ _ _ A1
  have fin : ∀ {σ' : L2.St} {H' : Hp} {s' : Shared} {v : V} {u : Value}, L2.Inv (cxOf (L2.CX P w) P w k.K mg base N qual scope f cdv A outer s H E) [] σ' H' s' → RelV v u → Q v H' → CE outer P w H s Q u s' :=
    fun {σ' H' s' v u} J rv q => ⟨v, H', J.os, J.bare, J.base, J.hok, rv, q⟩
  refine wpAny_mono (B.run [] s1 (start N vs) H { nx := fun _ H' => Q .non H', rt := Q } I ?_) (fun fl s' hs => ?_) fun e s' hs => wpAny_mono hs (fun _ _ z => ⟨(fun v e => nomatch e), z⟩) fun _ _ z => ⟨(fun v e => nomatch e), z⟩
  · refine ⟨r, ds.map some ++ List.replicate (N.length - ds.length) none, m, ?_, hm, ?_⟩
    · have e : N.length - ds.length = N.length - vs.length := by rw [hl, hvl]
      rw [e]
      exact RF.start hd
    · unfold fnD at q
      revert q
      cases hS : g (ds.map some ++ List.replicate (N.length - ds.length) none) m with
      | go l f1 m1 =>
        cases l with
        | nx =>
          intro q r1 σ1 H1 p kp hr1 hf1
          obtain ⟨r2, p2, h2, h3⟩ := gc_ok hm p hr1 (show RV k r1 H1 .non .non from rfl)
          exact q r2 .non H1 p2 kp h2 h3
        | ret d =>
          intro q r1 v H1 p kp hr1 hv1
          obtain ⟨r2, p2, h2, h3⟩ := gc_ok hm p hr1 hv1
          exact q r2 v H1 p2 kp h2 h3
        | bk => exact fun q => q.elim
        | ct => exact fun q => q.elim
      | ex x f1 m1 => exact fun q r1 c dx σ1 H1 p kp hr1 hf1 hx => q r1 c dx H1 p kp hr1 hx
      | no => exact fun q => q.elim
  · obtain ⟨ht, hs⟩ := hs
    cases fl with
    | ret u =>
      obtain ⟨v, σ', H', J, rv', q'⟩ := hs
      exact ⟨fun _ _ => ht, fin J rv' q'⟩
    | next =>
      obtain ⟨σ', H', J, q'⟩ := hs
      exact ⟨fun _ _ => ht, fin (v := V.non) (u := Value.none) J rfl q'⟩
    | brk =>
      obtain ⟨_, _, _, q'⟩ := hs
      exact q'.elim
    | cont =>
      obtain ⟨_, _, _, q'⟩ := hs
      exact q'.elim
structure Dt (P : Program) (w : World) (mg : Str → Option Value) (base : Heap) (k : Kx) (n : Nat) (d : He.DefD) (ps : List Str) (F : List D → MH → Out D) : Prop where
  ex : ∃ fd, FnT P w mg base k n (He.fAd k.K d.at_) fd ps F ∧ FunD k.K d.name d.qual d.params d.body d.scope (d.dvs k.K) (d.kws k.K) (He.fAd k.K d.at_) fd
theorem dt_of {P : Program} {w : World} {mg : Str → Option Value} {base : Heap} {k : Kx} {n : Nat} {d : He.DefD} {ps N : List Str} {g : GS} {fd : FuncData} (F : FunD k.K d.name d.qual d.params d.body d.scope (d.dvs k.K) (d.kws k.K) (He.fAd k.K d.at_) fd) (S : FnScope N ps d.scope)
    (hb : ∀ (cdv : Value) (A : Around) (outer : List Env) (s : Shared) (H : Hp) (E : XK), At (cxOf (L2.CX P w) P w k.K mg base N d.qual d.scope (He.fAd k.K d.at_) cdv A outer s H E) (fun c d _ H' => E c d H') k n →
      SSsQ (cxOf (L2.CX P w) P w k.K mg base N d.qual d.scope (He.fAd k.K d.at_) cdv A outer s H E) (fun c d _ H' => E c d H') k d.body g) : Dt P w mg base k (n + 1) d ps (fnD N.length g) := by
  refine ⟨fd, ?_, F⟩
  obtain ⟨oc, od, dV, kV, doc, pm, an, cdv, ct, osl, rfl, lk, hcd, _, _⟩ := F.ex
  exact FnT.of lk hcd S fun A outer s H E => hb cdv A outer s H E
end
section
variable {X : Cx} {W : WX} {k : Kx} {n : Nat} {f : Addr} {fd : FuncData} {ps ks : List Str} {F : List D → MH → Out D} {x : Str} {p pos : Pos} {e : Expr} {es : List Expr} {kws : List Keyword} {t tk : Fr → MH → Out (List D)} {gD : List D → List D → List D} {g : Fr → MH → Out D}
theorem seq_se (h : SEQ X W k e g) : SE X W k e g := ⟨fun pins s σ H Q I q => wpAny_mono (h.run pins s σ H Q I q) (fun _ _ z => z.2) fun _ _ z => z⟩
theorem run_ft {pins : List (Addr × Obj)} {σ : L2.St} {H : Hp} {s : Shared} {Q : VK} {us ws : List Value} {vs zs : List V} {r : List Addr} {m : MH} {ds es : List D} (A : At X W k n) (G : FnT X.prog X.w X.mg X.base k n f fd ps F) (B : KB k fd ps ds.length ks gD)
    (I : L2.Inv X pins σ H s) (rv : Vals vs us) (rz : Vals zs ws) (hr : HR k r m H) (hd : RVs k r H ds vs) (he : RVs k r H es zs) (hl : es.length = ks.length) (q : Fi k (RV k) r H (F (gD ds es) m) Q fun c d H' => W c d σ H') :
    wpAny (model X.prog X.w) X.A (call (.ref f) us (ks.zip ws)) (fun v s' => 1 ≤ s'.toks ∧ EP X pins σ Q v s') X.xe s := by
  obtain ⟨g, gV, Bn, rel⟩ := B.ex
  have l1 : us.length = ds.length := by rw [← rv.length, hd.length]
  have l2 : ws.length = ks.length := by rw [← rz.length, ← he.length, hl]
  obtain ⟨hD, hL⟩ := rel r H vs zs ds es hd he rfl hl
  have kin : k.K.In s.heap := by
    rw [A.kk]
    exact I.kIn
  have e0 : Env0 X.prog X.w k.K X.mg X.base X.A X.stack s H := by
    rw [A.kk]
    exact I.env0
  refine wpAny_call (codeAny_mono (G.run X.A X.stack s H ⟨us, ks.zip ws⟩ (g us ws) (gV vs zs) Q _ r m (gD ds es) A.hr A.gd e0 (Bn.to s us ws kin l1 l2) (Bn.rel rv rz) hr hD hL q) fun res s' hq => ?_)
  obtain ⟨ht, hq⟩ := hq
  match res, hq with
  | .error er, hq => exact A.tk er s' (XE.of_call I (fun _ _ _ z => z) hq)
  | .ok (.ret u), hq => exact ⟨ht u rfl, I.after hq⟩
  | .ok .next, hq => exact hq.elim
  | .ok .brk, hq => exact hq.elim
  | .ok .cont, hq => exact hq.elim
theorem sq_call (A : At X W k n) (G : FnT X.prog X.w X.mg X.base k n f fd ps F) (hg : Gl X x) (hm : X.mg x = some (.ref f)) (hk : PySem.W.keepIn X.K (.ref f) = true) {j : Nat} (B : KB k fd ps j ks gD) (ha : SA X W k (e :: es) t) (hkw : SK X W k kws tk)
    (hall : (backToKw pos (keywordEach kws X.env)).all (·.1.isSome) = true := by rfl) (hks : (backToKw pos (keywordEach kws X.env)).filterMap (·.1) = ks := by rfl) (hdb : (x == ("__debug__" : Str)) = false := by decide)
    (he : starEach (e :: es) X.env = (false, eval e X.env) :: starEach es X.env := by rfl) (hpl : ((backTo pos (starEach (e :: es) X.env)).any (·.1) || (backToKw pos (keywordEach kws X.env)).any (·.1.isNone)) = false := by rfl) :
    SEQ X W k (.Call (.Name x p) (e :: es) kws pos) (gCall F gD j ks.length t tk) := by
  refine ⟨fun pins s σ H Q I h => wpAny_Call_Name_kw (ld_glob I hg hm ?_ hdb)⟩
  obtain ⟨r, f0, m, hf, hr, q⟩ := h
  have h1 : tM k (RVs k) W t σ H fun vs H1 => ∃ r1 m1 ds, RF k r1 H1 f0 σ ∧ HR k r1 m1 H1 ∧ RVs k r1 H1 ds vs ∧ Fi k (RV k) r1 H1 ((tk f0 m1).bind fun es h2 => if ds.length = j ∧ es.length = ks.length then F (gD ds es) h2 else .no) Q fun c d H' => W c d σ H' :=
    tM_of hf hr (Fi.bind q fun ds m1 r1 vs H1 p kp hr1 hds q1 => ⟨r1, m1, ds, hf.more p kp, hr1, hds, q1⟩)
  refine PySem.W.callWith_KW (h₀ := X.base) I.ok.mod.kin hk hall (thn (ha.run pos pins s σ H _ I h1) fun us s1 hq1 => ?_) hpl he
  obtain ⟨vs, H1, I1, rv, r1, m1, ds, hf1, hr1, hds, q1⟩ := hq1
  have h2 : tM k (RVs k) W tk σ H1 fun zs H2 => ∃ r2 m2 es, HR k r2 m2 H2 ∧ RVs k r2 H2 ds vs ∧ RVs k r2 H2 es zs ∧ Fi k (RV k) r2 H2 (if ds.length = j ∧ es.length = ks.length then F (gD ds es) m2 else .no) Q fun c d H' => W c d σ H' :=
    tM_of hf1 hr1 (Fi.bind q1 fun es m2 r2 zs H2 p kp hr2 hes q2 => ⟨r2, m2, es, hr2, RVs.more p kp ds vs hds, hes, q2⟩)
  refine thn (hkw.run pos pins s1 σ H1 _ I1 h2) fun ws s2 hq2 => ?_
  obtain ⟨zs, H2, I2, rz, r2, m2, es2, hr2, hds2, hes2, q2⟩ := hq2
  refine ⟨I2.kIn, ?_⟩
  rw [hks]
  split at q2
  · rename_i hl
    obtain ⟨rfl, hl⟩ := hl
    exact run_ft A G B I2 rv rz hr2 hds2 hes2 hl q2
  · exact q2.elim
def replT (y z x : Tx) : Tx := PySem.StrLaws.replL y z x
def replD (y z : Tx) : D → MH → Opt D
  | .str x, m => if x.length ≤ 100000 ∧ z.length ≤ 100 then some (.str (replT y z x), m) else none
  | _, _ => none
theorem replT_ok {x y z : Tx} (hy : 1 ≤ y.length) : Txt.replace (tx x) (tx y) (tx z) = tx (replT y z x) := by
  have h := PySem.StrLaws.replace_list (x := tx x) (y := tx y) (z := tx z) hy
  rw [← tx_cps (Txt.replace (tx x) (tx y) (tx z)), h]
  rfl
/-- e.replace(y, z), a token out behind e -/
theorem sq_repl {y z : Tx} {sy sz : Str} {j l : Nat} {c0 c1 apos : Pos} (ho : SEQ X W k e g) (hy : 1 ≤ y.length) (ey : sy = tx y) (ez : sz = tx z) (hyz : (sy == sz) = false := by decide)
    (hst : starEach [.Constant (.str sy) j c0, .Constant (.str sz) l c1] X.env = [(false, eval (.Constant (.str sy) j c0) X.env), (false, eval (.Constant (.str sz) l c1) X.env)] := by rfl)
    (hbase : attributeBase e "replace" X.env (eval e X.env) = eval e X.env := by rfl) (hline : (apos.endLine == pos.line) = true := by rfl) :
    SEQ X W k (.Call (.Attribute e "replace" apos) [.Constant (.str sy) j c0, .Constant (.str sz) l c1] [] pos) (gUn (replD y z) g) := by
  refine ⟨fun pins s σ H Q I h => ?_⟩
  have h' : tM k (RV k) W g σ H fun v H1 => ∃ x : Tx, v = .str (tx x) ∧ x.length ≤ 100000 ∧ z.length ≤ 100 ∧ Q (.str (tx (replT y z x))) H1 := by
    refine tM_bind (h := fun d _ m1 => up (replD y z d m1)) h fun d r f m v H1 hf hr hv q => ?_
    replace q := Fi.ok q
    unfold replD at q
    split at q
    · rename_i x
      obtain rfl : _ = _ := hv
      split at q
      · rename_i hl
        exact ⟨x, rfl, hl.1, hl.2, Ok.pure q hr (show _ = _ from rfl)⟩
      · exact q.elim
    · exact q.elim
  refine PySem.Call_method2 hbase hst hline (wpAny_mono (ho.run pins s σ H _ I h') (fun v s1 q => ?_) fun _ _ z => z)
  obtain ⟨hk, v', H1, I1, r1, x, e1, hb, hz, q⟩ := q
  subst e1
  obtain ⟨tk, e2⟩ := r1
  subst e2
  refine ⟨"str", _, PySem.F.plainAttrs_str, PySem.F.slot_str_replace, PySem.F.type_str_replace, typeIs_str _ _ _, (fun _ e => nomatch e), ?_⟩
  refine wpAny_mono (PySem.wpAny_toks_of (n := 1) hk (Q := EP X pins σ Q) (E := X.xe) ?_) (fun _ _ z => z) (fun _ _ z => z.2)
  refine Calls.callWith_builtin rfl (Calls.evalArgs_plain (Calls.spliced_cons ?_))
  refine Calls.Constant_str (Calls.spliced_cons (Calls.Constant_str (Calls.spliced_nil ?_)))
  have hlen : (tx x).length + ((tx x).length + 1) * sz.length ≤ 16777216 := by
    have h1 : (tx x).length = x.length := rfl
    have h2 : sz.length = z.length := by rw [ez]; rfl
    rw [h1, h2]
    have h3 : (x.length + 1) * z.length ≤ 100001 * 100 := Nat.mul_le_mul (by omega) hz
    omega
  rw [← replT_ok hy, ← ey, ← ez] at q
  exact PySem.SC.replace (by show s1.toks ≠ 0; omega) (by show s1.toks + 1 ≠ 0; omega) (by show s1.toks ≠ s1.toks + 1; omega) hyz hlen fun t' k => ⟨.str _, H1, I1.tok k, ⟨t', rfl⟩, q⟩
/-- x = e :: rest, a token out behind e -/
theorem ssq_set {x : Str} (i : Nat) {pos' : Pos} {rest : List Stmt} {b : GS} (he : SEQ X W k e g) (hN : X.N.Nodup) (hr : SSs X W k rest b) (hi : X.N[i]? = some x := by rfl) (hx : Loc X.env.scope x := by first | exact Or.inl rfl | exact Or.inr rfl) (hs : swapsWith e (some (.Name x pos')) pos.line X.env = pure false := by rfl)
    (hf : X.fn x = true ∨ X.env.scope.names.lookup x = some .local := by first | exact .inl rfl | exact .inr rfl) : SSsQ X W k (.Assign [.Name x pos'] e pos :: rest) (sSeq (sSet i g) b) := by
  refine ⟨fun pins s σ H D I h => ?_⟩
  obtain ⟨r, f, m, hf0, hr0, q⟩ := h
  have h1 : tM k (RV k) W g σ H fun v H1 => tS k W b D (σ.set i (some v)) H1 := by
    refine tS_bind (E := { D with nx := tS k W b D }) (h := fun d f m1 => .go .nx (f.set i (some d)) m1) ⟨r, f, m, hf0, hr0, FiS.seq (o := sSet i g f m) q⟩ fun d r f m v H1 hf hr hv q => FiS.nx q hr (hf.set i hv)
  refine wpAny_execs_cons (wpAny_Assign_Name (wpAny_mono (he.run pins s σ H _ I h1) (fun v s1 q1 => ?_) fun _ _ z => z) hs)
  obtain ⟨ht, y, H1, I1, r1, q1⟩ := q1
  refine wpAny_mono (PySem.wpAny_toks_of (n := 1) ht (store_ok (Q := fun _ s2 => L2.Inv X pins (σ.set i (some y)) H1 s2) I1 hN hi hx r1 (fun s2 I2 => I2) hf)) (fun _ s2 q2 => ?_) fun _ _ z => z.2
  obtain ⟨ht2, I2⟩ := q2
  exact wpAny_mono (PySem.wpAny_toks_of (n := 1) ht2 (hr.run pins s2 _ H1 D I2 q1)) (fun _ _ z => z) fun _ _ z => z.2
/-- x = "lit" -/
theorem sq_str {x : Tx} {sx : Str} {j : Nat} {cp : Pos} (ex : sx = tx x := by rfl) : SEQ X W k (.Constant (.str sx) j cp) (gCon (.str x)) := by
  refine ⟨fun pins s σ H Q I h => ?_⟩
  obtain ⟨r, f, m, hf, hr, q⟩ := h
  refine Calls.Constant_str ⟨by show 1 ≤ s.toks + 1; omega, .str sx, H, I.tok _, ⟨_, rfl⟩, ?_⟩
  exact Fi.pure q hr (show V.str sx = .str (tx x) by rw [ex])
/-- ["lit", ..] -/
theorem sq_lst0 {x : Tx} {sx : Str} {j : Nat} {cp : Pos} {tt : Fr → MH → Out (List D)} (ha : SA X W k es tt) (ex : sx = tx x := by rfl) (hs : starEach (.Constant (.str sx) j cp :: es) X.env = (false, eval (.Constant (.str sx) j cp) X.env) :: starEach es X.env := by rfl) :
    SEQ X W k (.List (.Constant (.str sx) j cp :: es) pos) (gFn dLst (gCons (gCon (.str x)) tt)) := by
  refine ⟨fun pins s σ H Q I h => ?_⟩
  obtain ⟨r, f, m, hf, hr, q⟩ := h
  have h2 : tM k (RVs k) W tt σ H fun vs H1 => vs.length ≤ 99999 ∧ ∀ p, H1 p = none → Q (.ref p) (upd H1 p (.lst (.str sx :: vs))) := by
    refine tM_of hf hr (Fi.bind (R := RVs k) (show Fi k (RV k) r H ((tt f m).bind fun xs m2 => up (dLst (.str x :: xs) m2)) Q _ from ?_) fun ds m1 r1 vs H1 p kp hr1 hds q1 => ?_)
    · have e1 : gFn dLst (gCons (gCon (.str x)) tt) f m = (tt f m).bind fun xs m2 => up (dLst (.str x :: xs) m2) := by
        show ((Out.ok (D.str x) m).bind fun y m1 => (tt f m1).bind fun xs m2 => .ok (y :: xs) m2).bind _ = _
        rw [Out.bind_ok, Out.bind_bind]
        rfl
      rw [← e1]
      exact q
    · replace q1 := Fi.ok q1
      unfold dLst at q1
      split at q1
      · rename_i hl
        have hv : RVs k r1 H1 (.str x :: ds) (.str sx :: vs) := ⟨.str sx, vs, rfl, by show V.str sx = .str (tx x); rw [ex], hds⟩
        refine ⟨?_, new_lst q1 hr1 hv⟩
        rw [← hds.length]
        simp at hl
        omega
      · exact q1.elim
  refine wpAny_List_spliced ?_
  rw [hs]
  show wpAny _ _ (spliced ((false, eval (.Constant (.str sx) j cp) X.env) :: backTo pos (starEach es X.env))) _ _ s
  refine Calls.spliced_cons (Calls.Constant_str ?_)
  refine wpAny_mono (PySem.wpAny_toks_of (n := 1) (by show 1 ≤ s.toks + 1; omega) (ha.run pos pins { s with toks := s.toks + 1 } σ H _ (I.tok _) h2)) (fun us s1 q1 => ?_) fun _ _ z => z.2
  obtain ⟨ht, xs, H1, I1, r1, hz, q1⟩ := q1
  have hz2 : (Value.str sx s.toks :: us).length ≤ sizeLine := by
    rw [List.length_cons, ← r1.length]
    exact Nat.le_trans (show xs.length + 1 ≤ 100000 by omega) (by decide)
  refine ⟨hz2, ht, ?_⟩
  have hfr : H1 s1.heap.objs.size = none := I1.hok.fresh (Nat.le_refl _)
  refine ⟨.ref s1.heap.objs.size, upd H1 s1.heap.objs.size (.lst (.str sx :: xs)), I1.laid (t' := s1.toks) (fun b u e => Heap.get?_push_of_some _ e) (Nat.le_refl _) ?_, rfl, q1 _ hfr⟩
  exact ⟨by rw [List.length_cons]; exact Nat.le_trans (show xs.length + 1 ≤ 100000 by omega) (by decide), _, 0, .cons ⟨_, rfl⟩ r1, Heap.get?_push_size _ rfl⟩
end
end Mn
end

section
/-! Mini, part P: how plain runs are reasoned about. -/
namespace Mn
open PySem PySem.Spec PyProof.Rows L2

/-- the run comes to a value, of which Q -/
def wp {α : Type} (o : Out α) (Q : α → MH → Prop) : Prop := match o with
  | .ok a m => Q a m
  | _ => False
/-- a statement's run -/
def ws (o : SO) (Q : Fl → Fr → MH → Prop) : Prop := match o with
  | .go l f m => Q l f m
  | _ => False
section
variable {α β : Type} {m : MH} {f : Fr} {Q : α → MH → Prop} {R : Fl → Fr → MH → Prop}
theorem wp_ok {a : α} : wp (.ok a m) Q = Q a m := rfl
theorem wp_no : wp (.no : Out α) Q = False := rfl
theorem wp_bind {o : Out β} {g : β → MH → Out α} : wp (o.bind g) Q = wp o fun b m => wp (g b m) Q := by
  cases o <;> rfl
theorem wp_up {d : D} {P : D → MH → Prop} : wp (up (some (d, m))) P = P d m := rfl
theorem wp_mono {o : Out α} {Q' : α → MH → Prop} (h : wp o Q) (i : ∀ a m, Q a m → Q' a m) : wp o Q' := by
  cases o with
  | ok a m => exact i _ _ h
  | ex _ _ => exact h
  | no => exact h
theorem wp_get {o : Out α} (h : wp o Q) : ∃ a m, o = .ok a m ∧ Q a m := by
  cases o with
  | ok a m => exact ⟨a, m, rfl, h⟩
  | ex _ _ => exact h.elim
  | no => exact h.elim
theorem ws_go {l : Fl} : ws (.go l f m) R = R l f m := rfl
theorem ws_of {o : Out α} {h : α → MH → SO} : ws (SO.of f o h) R = wp o fun a m => ws (h a m) R := by
  cases o <;> rfl
theorem ws_mono {o : SO} {R' : Fl → Fr → MH → Prop} (h : ws o R) (i : ∀ l f m, R l f m → R' l f m) : ws o R' := by
  cases o with
  | go l f m => exact i _ _ _ h
  | ex _ _ _ => exact h
  | no => exact h
/-- what is wanted behind one of two statements in a row -/
def thenR (b : GS) (R : Fl → Fr → MH → Prop) : Fl → Fr → MH → Prop := fun l f m => match l with
  | .nx => ws (b f m) R
  | l => R l f m
theorem ws_seq {a b : GS} : ws (sSeq a b f m) R = ws (a f m) (thenR b R) := by
  unfold sSeq SO.andThen
  cases a f m with
  | go l f m => cases l <;> rfl
  | ex _ _ _ => rfl
  | no => rfl
theorem thenR_nx {b : GS} : thenR b R .nx f m = ws (b f m) R := rfl
theorem thenR_ret {b : GS} {d : D} : thenR b R (.ret d) f m = R (.ret d) f m := rfl
theorem thenR_bk {b : GS} : thenR b R .bk f m = R .bk f m := rfl
theorem thenR_ct {b : GS} : thenR b R .ct f m = R .ct f m := rfl
theorem ws_nil : ws (sNil f m) R = R .nx f m := rfl
theorem ws_set {i : Nat} {g : Fr → MH → Out D} : ws (sSet i g f m) R = wp (g f m) fun d m1 => R .nx (f.set i (some d)) m1 := by
  unfold sSet
  rw [ws_of]
  rfl
theorem ws_exp {g : Fr → MH → Out D} : ws (sExp g f m) R = wp (g f m) fun _ m1 => R .nx f m1 := by
  unfold sExp
  rw [ws_of]
  rfl
theorem ws_ret {g : Fr → MH → Out D} : ws (sRet g f m) R = wp (g f m) fun d m1 => R (.ret d) f m1 := by
  unfold sRet
  rw [ws_of]
  rfl
theorem ws_if {t : Fr → MH → Out Bool} {a b : GS} : ws (sIf t a b f m) R = wp (t f m) fun c m1 => if c = true then ws (a f m1) R else ws (b f m1) R := by
  unfold sIf
  rw [ws_of]
  congr 1
  funext c m1
  split <;> rfl
theorem ws_tg {T : Tg} {g : Fr → MH → Out D} : ws (sTg T g f m) R = wp (g f m) fun d m1 => match T.set d f with
    | some f2 => R .nx f2 m1
    | none => False := by
  unfold sTg
  rw [ws_of]
  congr 1
  funext d m1
  cases T.set d f <;> rfl
theorem ws_par2 {i j : Nat} {t : Fr → MH → Out (List D)} : ws (sPar2 i j t f m) R = wp (t f m) fun ds m1 => match ds with
    | [a, b] => R .nx ((f.set i (some a)).set j (some b)) m1
    | _ => False := by
  unfold sPar2
  rw [ws_of]
  congr 1
  funext ds m1
  rcases ds with _ | ⟨a, _ | ⟨b, _ | ⟨c, ds⟩⟩⟩ <;> rfl
theorem ws_store {go gi ge : Fr → MH → Out D} : ws (sStore go gi ge f m) R = wp (ge f m) fun v m1 => wp (go f m1) fun o m2 => wp (gi f m2) fun i m3 => match stD o i v m3 with
    | some m4 => R .nx f m4
    | none => False := by
  unfold sStore
  simp only [ws_of]
  congr 1
  funext v m1
  congr 1
  funext o m2
  congr 1
  funext i m3
  unfold upS
  split <;> simp_all [ws]
theorem ws_aug {i : Nat} {F : D → D → MH → Opt D} {g : Fr → MH → Out D} : ws (sAug i F g f m) R = match f[i]? with
    | some (some x) => wp (g f m) fun y m1 => wp (up (F x y m1)) fun d m2 => R .nx (f.set i (some d)) m2
    | _ => False := by
  unfold sAug
  cases f[i]? with
  | none => rfl
  | some o =>
    cases o with
    | none => rfl
    | some x =>
      dsimp only
      rw [ws_of, wp_bind]
      rfl
theorem ws_aug2 {F : D → D → MH → Opt D} {go gi ge : Fr → MH → Out D} : ws (sAug2 F go gi ge f m) R = wp (go f m) fun o m1 => wp (gi f m1) fun i m2 => wp (up (getD2 o i m2)) fun x m3 => wp (ge f m3) fun y m4 => wp (up (F x y m4)) fun z m5 => match stD o i z m5 with
    | some m6 => R .nx f m6
    | none => False := by
  unfold sAug2
  simp only [ws_of]
  congr 1
  funext o m1
  congr 1
  funext i m2
  congr 1
  funext x m3
  congr 1
  funext y m4
  congr 1
  funext z m5
  cases stD o i z m5 <;> rfl
theorem wp_var {i : Nat} {P : D → MH → Prop} : wp (gVar i f m) P = match f[i]? with
    | some (some x) => P x m
    | _ => False := by
  unfold gVar
  split <;> simp_all [wp]
theorem wp_con {d : D} {P : D → MH → Prop} : wp (gCon d f m) P = P d m := rfl
theorem wp_bin {F : D → D → MH → Opt D} {ga gb : Fr → MH → Out D} {P : D → MH → Prop} : wp (gBin F ga gb f m) P = wp (ga f m) fun x m1 => wp (gb f m1) fun y m2 => wp (up (F x y m2)) P := by
  unfold gBin
  simp only [wp_bind]
theorem wp_un {F : D → MH → Opt D} {ga : Fr → MH → Out D} {P : D → MH → Prop} : wp (gUn F ga f m) P = wp (ga f m) fun x m1 => wp (up (F x m1)) P := by
  unfold gUn
  simp only [wp_bind]
theorem wp_nil {P : List D → MH → Prop} : wp (gNil f m) P = P [] m := rfl
theorem wp_cons {g : Fr → MH → Out D} {t : Fr → MH → Out (List D)} {P : List D → MH → Prop} : wp (gCons g t f m) P = wp (g f m) fun x m1 => wp (t f m1) fun xs m2 => P (x :: xs) m2 := by
  unfold gCons
  simp only [wp_bind, wp_ok]
theorem wp_fn {F : List D → MH → Opt D} {t : Fr → MH → Out (List D)} {P : D → MH → Prop} : wp (gFn F t f m) P = wp (t f m) fun xs m1 => wp (up (F xs m1)) P := by
  unfold gFn
  simp only [wp_bind]
theorem wp_test {g : Fr → MH → Out D} {P : Bool → MH → Prop} : wp (gTest g f m) P = wp (g f m) fun x m1 => match isB x with
    | some b => P b m1
    | none => False := by
  unfold gTest
  rw [wp_bind]
  congr 1
  funext x m1
  cases isB x <;> rfl
theorem wp_and {a b : Fr → MH → Out Bool} {P : Bool → MH → Prop} : wp (gAnd a b f m) P = wp (a f m) fun c m1 => if c = true then wp (b f m1) P else P false m1 := by
  unfold gAnd
  rw [wp_bind]
  congr 1
  funext c m1
  split <;> rfl
theorem wp_or {a b : Fr → MH → Out Bool} {P : Bool → MH → Prop} : wp (gOr a b f m) P = wp (a f m) fun c m1 => if c = true then P true m1 else wp (b f m1) P := by
  unfold gOr
  rw [wp_bind]
  congr 1
  funext c m1
  split <;> rfl
theorem wp_not {a : Fr → MH → Out Bool} {P : Bool → MH → Prop} : wp (gNot a f m) P = wp (a f m) fun c m1 => P (!c) m1 := by
  unfold gNot
  rw [wp_bind]
  rfl
theorem wp_andV {a b : Fr → MH → Out D} {P : D → MH → Prop} : wp (gAndV a b f m) P = wp (a f m) fun x m1 => match isB x with
    | some true => wp (b f m1) P
    | some false => P (.bl false) m1
    | none => False := by
  unfold gAndV
  rw [wp_bind]
  congr 1
  funext c m1
  cases c <;> first | rfl | (rename_i b; cases b <;> rfl)
theorem wp_orV {a b : Fr → MH → Out D} {P : D → MH → Prop} : wp (gOrV a b f m) P = wp (a f m) fun x m1 => match isB x with
    | some true => P (.bl true) m1
    | some false => wp (b f m1) P
    | none => False := by
  unfold gOrV
  rw [wp_bind]
  congr 1
  funext c m1
  cases c <;> first | rfl | (rename_i b; cases b <;> rfl)
theorem wp_notV {a : Fr → MH → Out D} {P : D → MH → Prop} : wp (gNotV a f m) P = wp (a f m) fun x m1 => match isB x with
    | some b => P (.bl (!b)) m1
    | none => False := by
  unfold gNotV
  rw [wp_bind]
  congr 1
  funext c m1
  cases c <;> rfl
theorem wp_if {t : Fr → MH → Out Bool} {a b : Fr → MH → Out α} : wp (gIf t a b f m) Q = wp (t f m) fun c m1 => if c = true then wp (a f m1) Q else wp (b f m1) Q := by
  unfold gIf
  rw [wp_bind]
  congr 1
  funext c m1
  split <;> rfl
theorem wp_chain {F G : D → D → MH → Opt D} {a b c : Fr → MH → Out D} {P : D → MH → Prop} : wp (gChain F G a b c f m) P = wp (a f m) fun x m1 => wp (b f m1) fun y m2 => wp (up (F x y m2)) fun z m3 => match isB z with
    | some true => wp (c f m3) fun w m4 => wp (up (G y w m4)) P
    | some false => P (.bl false) m3
    | none => False := by
  unfold gChain
  simp only [wp_bind]
  congr 1
  funext x m1
  congr 1
  funext y m2
  congr 1
  funext z m3
  cases z <;> first | rfl | (rename_i b; cases b <;> first | rfl | exact wp_bind)
theorem wp_call {F : List D → MH → Out D} {gD : List D → List D → List D} {n k : Nat} {t tk : Fr → MH → Out (List D)} {P : D → MH → Prop} : wp (gCall F gD n k t tk f m) P = wp (t f m) fun ds m1 => wp (tk f m1) fun es m2 => if ds.length = n ∧ es.length = k then wp (F (gD ds es) m2) P else False := by
  unfold gCall
  simp only [wp_bind]
  congr 1
  funext ds m1
  congr 1
  funext es m2
  split <;> rfl
theorem wp_sl {g : Fr → MH → Out D} {gl gh : Fr → MH → Out (Option Int)} {P : D → MH → Prop} : wp (gSl g gl gh f m) P = wp (g f m) fun d m1 => wp (gl f m1) fun lo m2 => wp (gh f m2) fun hi m3 => wp (up (slD d lo hi m3)) P := by
  unfold gSl
  simp only [wp_bind]
theorem wp_nopart {P : Option Int → MH → Prop} : wp (gNoPart f m) P = P none m := rfl
theorem wp_part {g : Fr → MH → Out D} {P : Option Int → MH → Prop} : wp (gPart g f m) P = wp (g f m) fun d m1 => match d with
    | .int i => P (some i) m1
    | _ => False := by
  unfold gPart
  rw [wp_bind]
  congr 1
  funext d m1
  cases d <;> rfl
theorem wp_bm {c : D → MH → Bool} {M : D → List D → MH → Opt D} {g : Fr → MH → Out D} {t : Fr → MH → Out (List D)} {P : D → MH → Prop} : wp (gBM c M g t f m) P = wp (g f m) fun x m1 => if c x m1 = true then wp (t f m1) fun xs m2 => wp (up (M x xs m2)) P else False := by
  unfold gBM
  simp only [wp_bind]
  congr 1
  funext x m1
  split
  · exact wp_bind
  · rfl
theorem wp_iter {g : Fr → MH → Out D} {P : Src → MH → Prop} : wp (gIter g f m) P = wp (g f m) fun d m1 => wp (itD d m1) P := by
  unfold gIter
  rw [wp_bind]
theorem wp_rng1 {t : Fr → MH → Out (List D)} {P : Src → MH → Prop} : wp (gRng1 t f m) P = wp (t f m) fun xs m1 => ∃ j, xs = [.int j] ∧ i62 j ∧ P (rngS 0 1 j.toNat) m1 := by
  unfold gRng1
  rw [wp_bind]
  congr 1
  funext xs m1
  refine propext ⟨fun z => ?_, fun ⟨j, e, h, z⟩ => ?_⟩
  · split at z
    · rename_i j
      split at z
      · rename_i h
        exact ⟨j, rfl, h, z⟩
      · exact z.elim
    · exact z.elim
  · subst e
    simp only [if_pos h]
    exact z
theorem wp_rng2 {t : Fr → MH → Out (List D)} {P : Src → MH → Prop} : wp (gRng2 t f m) P = wp (t f m) fun xs m1 => ∃ i j, xs = [.int i, .int j] ∧ (i62 i ∧ i62 j) ∧ P (rngS i 1 (j - i).toNat) m1 := by
  unfold gRng2
  rw [wp_bind]
  congr 1
  funext xs m1
  refine propext ⟨fun z => ?_, fun ⟨i, j, e, h, z⟩ => ?_⟩
  · split at z
    · rename_i i j
      split at z
      · rename_i h
        exact ⟨i, j, rfl, h, z⟩
      · exact z.elim
    · exact z.elim
  · subst e
    simp only [if_pos h]
    exact z
/-- a def's run -/
theorem wp_fnD {N : Nat} {g : GS} {ds : List D} {P : D → MH → Prop} (h : ws (g (ds.map some ++ List.replicate (N - ds.length) none) m) fun l _ m1 => match l with
    | .nx => P (gc m .non m1).1 (gc m .non m1).2
    | .ret d => P (gc m d m1).1 (gc m d m1).2
    | _ => False) : wp (fnD N g ds m) P := by
  unfold fnD
  revert h
  cases g (ds.map some ++ List.replicate (N - ds.length) none) m with
  | go l f m => cases l <;> exact fun h => h
  | ex _ _ _ => exact fun h => h.elim
  | no => exact fun h => h.elim
end

/-! ### loops -/
@[irreducible] def wfuelP : Nat := wfuel
theorem wfuel_eq : wfuel = 1000000 := by
  unfold wfuel
  rfl
/-- while: an invariant with a measure below a million -/
theorem ws_while {t : Fr → MH → Out Bool} {b : GS} {f : Fr} {m : MH} {R : Fl → Fr → MH → Prop} (I : Nat → Fr → MH → Prop) {n0 : Nat} (hn : n0 < 1000000) (h0 : I n0 f m)
    (hs : ∀ n f m, I n f m → wp (t f m) fun c m1 => if c = true then ws (b f m1) (fun l f2 m2 => match l with
        | .nx => ∃ n2, n2 < n ∧ I n2 f2 m2
        | .ct => ∃ n2, n2 < n ∧ I n2 f2 m2
        | .bk => R .nx f2 m2
        | .ret d => R (.ret d) f2 m2) else R .nx f m1) : ws (sWhile t b f m) R := by
  have key : ∀ (j n : Nat) (f : Fr) (m : MH), n < j → I n f m → ws (loopW t b j f m) R := by
    intro j
    induction j with
    | zero => exact fun n f m h _ => absurd h (Nat.not_lt_zero _)
    | succ j ih =>
      intro n f m hj hi
      have q := hs n f m hi
      unfold loopW
      rw [ws_of]
      refine wp_mono q fun c m1 q1 => ?_
      cases c with
      | false => exact q1
      | true =>
        have q1 : ws (b f m1) _ := q1
        revert q1
        cases b f m1 with
        | go l f2 m2 =>
          cases l with
          | nx =>
            rintro ⟨n2, h1, h2⟩
            exact ih n2 f2 m2 (by omega) h2
          | ct =>
            rintro ⟨n2, h1, h2⟩
            exact ih n2 f2 m2 (by omega) h2
          | bk => exact fun h => h
          | ret d => exact fun h => h
        | ex _ _ _ => exact fun h => h
        | no => exact fun h => h
  unfold sWhile
  rw [wfuel_eq]
  exact key _ n0 f m hn h0
/-- for: an invariant by the turn -/
theorem ws_for {g : Fr → MH → Out Src} {T : Tg} {b : GS} {f : Fr} {m : MH} {R : Fl → Fr → MH → Prop} (N : Nat) (hN : N < 1000000)
    (h : wp (g f m) fun src m0 => ∃ I : Nat → Fr → MH → Prop, I 0 f m0 ∧ ∀ i f m, i ≤ N → I i f m → ∃ o, src i m = some o ∧ match o with
      | none => R .nx f m
      | some d => i < N ∧ ∃ f1, T.set d f = some f1 ∧ ws (b f1 m) fun l f2 m2 => match l with
        | .nx => I (i + 1) f2 m2
        | .ct => I (i + 1) f2 m2
        | .bk => R .nx f2 m2
        | .ret d => R (.ret d) f2 m2) : ws (sFor g T b f m) R := by
  unfold sFor
  rw [ws_of]
  refine wp_mono h fun src m0 ⟨I, h0, hs⟩ => ?_
  have key : ∀ (j i : Nat) (f : Fr) (m : MH), i ≤ N → N < i + j → I i f m → ws (loopN src T b j i f m) R := by
    intro j
    induction j with
    | zero => exact fun i f m h1 h2 _ => absurd h2 (by omega)
    | succ j ih =>
      intro i f m h1 h2 hi
      obtain ⟨o, e, q⟩ := hs i f m h1 hi
      unfold loopN
      rw [e]
      cases o with
      | none => exact q
      | some d =>
        obtain ⟨hlt, f1, e1, q⟩ := q
        simp only [e1]
        revert q
        cases b f1 m with
        | go l f2 m2 =>
          cases l with
          | nx => exact fun h => ih (i + 1) f2 m2 hlt (by omega) h
          | ct => exact fun h => ih (i + 1) f2 m2 hlt (by omega) h
          | bk => exact fun h => h
          | ret d => exact fun h => h
        | ex _ _ _ => exact fun h => h
        | no => exact fun h => h
  rw [wfuel_eq]
  exact key _ 0 f m0 (Nat.zero_le _) (by omega) h0
/-- for over a range from lo: I by the turn -/
theorem ws_range {T : Tg} {b : GS} {f : Fr} {m : MH} {R : Fl → Fr → MH → Prop} {lo c : Int} {n : Nat} (hn : n < 1000000) (I : Nat → Fr → MH → Prop) (h0 : I 0 f m)
    (hs : ∀ i f m, i < n → I i f m → ∃ f1, T.set (.int (lo + (i : Nat) * c)) f = some f1 ∧ ws (b f1 m) fun l f2 m2 => match l with
        | .nx => I (i + 1) f2 m2
        | .ct => I (i + 1) f2 m2
        | .bk => R .nx f2 m2
        | .ret d => R (.ret d) f2 m2) (he : ∀ f m, I n f m → R .nx f m) : ws (loopN (rngS lo c n) T b wfuel 0 f m) R := by
  have q := ws_for (g := fun _ m => .ok (rngS lo c n) m) (T := T) (b := b) (f := f) (m := m) (R := R) n hn ⟨I, h0, fun i f m hi hI => ?_⟩
  · exact q
  · unfold rngS
    by_cases hlt : i < n
    · rw [if_pos hlt]
      obtain ⟨f1, e, q⟩ := hs i f m hlt hI
      exact ⟨_, rfl, hlt, f1, e, q⟩
    · rw [if_neg hlt]
      have e : i = n := by omega
      subst e
      exact ⟨_, rfl, he f m hI⟩
theorem ws_forE {g : Fr → MH → Out Src} {T : Tg} {b : GS} {f : Fr} {m : MH} {R : Fl → Fr → MH → Prop} : ws (sFor g T b f m) R = wp (g f m) fun src m1 => ws (loopN src T b wfuel 0 f m1) R := by
  unfold sFor
  rw [ws_of]
/-- over fixed items -/
theorem ws_fix {T : Tg} {b : GS} {f : Fr} {m : MH} {R : Fl → Fr → MH → Prop} {xs : List D} (hn : xs.length < 1000000) (I : Nat → Fr → MH → Prop) (h0 : I 0 f m)
    (hs : ∀ i d f m, xs[i]? = some d → I i f m → ∃ f1, T.set d f = some f1 ∧ ws (b f1 m) fun l f2 m2 => match l with
        | .nx => I (i + 1) f2 m2
        | .ct => I (i + 1) f2 m2
        | .bk => R .nx f2 m2
        | .ret d => R (.ret d) f2 m2) (he : ∀ f m, I xs.length f m → R .nx f m) : ws (loopN (fixS xs) T b wfuel 0 f m) R := by
  have q := ws_for (g := fun _ m => .ok (fixS xs) m) (T := T) (b := b) (f := f) (m := m) (R := R) xs.length hn ⟨I, h0, fun i f m hi hI => ?_⟩
  · exact q
  · unfold fixS
    cases e : xs[i]? with
    | none =>
      have : i = xs.length := by
        have := List.getElem?_eq_none_iff.mp e
        omega
      subst this
      exact ⟨_, rfl, he f m hI⟩
    | some d =>
      obtain ⟨f1, e1, q⟩ := hs i d f m e hI
      exact ⟨_, rfl, (List.getElem?_eq_some_iff.mp e).1, f1, e1, q⟩
/-- over a list that stands as it is -/
theorem ws_lst {T : Tg} {b : GS} {f : Fr} {m : MH} {R : Fl → Fr → MH → Prop} {a : Nat} {xs : List D} (hn : xs.length < 1000000) (I : Nat → Fr → MH → Prop) (h0 : I 0 f m) (hl : ∀ i f m, I i f m → m[a]? = some (.lst xs))
    (hs : ∀ i d f m, xs[i]? = some d → I i f m → ∃ f1, T.set d f = some f1 ∧ ws (b f1 m) fun l f2 m2 => match l with
        | .nx => I (i + 1) f2 m2
        | .ct => I (i + 1) f2 m2
        | .bk => R .nx f2 m2
        | .ret d => R (.ret d) f2 m2) (he : ∀ f m, I xs.length f m → R .nx f m) : ws (loopN (lstS a) T b wfuel 0 f m) R := by
  have q := ws_for (g := fun _ m => .ok (lstS a) m) (T := T) (b := b) (f := f) (m := m) (R := R) xs.length hn ⟨I, h0, fun i f m hi hI => ?_⟩
  · exact q
  · have e0 := hl i f m hI
    have es : lstS a i m = some xs[i]? := by
      unfold lstS
      rw [e0]
    rw [es]
    cases e : xs[i]? with
    | none =>
      have : i = xs.length := by
        have := List.getElem?_eq_none_iff.mp e
        omega
      subst this
      exact ⟨_, rfl, he f m hI⟩
    | some d =>
      obtain ⟨f1, e1, q⟩ := hs i d f m e hI
      exact ⟨_, rfl, (List.getElem?_eq_some_iff.mp e).1, f1, e1, q⟩

/-! ### comprehensions -/
/-- over fixed items or an unchanged list: what src tells is xs; J says of the list so far and the rest of the heap -/
theorem wp_loopC {src : Src} {T : Tg} {tt : Fr → MH → Out Bool} {te : Fr → MH → Out D} {fw : Fr} {a : Nat} {Q : D → MH → Prop} {xs : List D} (hn : xs.length < 1000000) {m : MH} (I : Nat → List D → MH → Prop) (h0 : I 0 [] m)
    (hsrc : ∀ i acc m, I i acc m → src i m = some xs[i]?) (hacc : ∀ i acc m, I i acc m → m[a]? = some (.lst acc))
    (hs : ∀ i d acc m, xs[i]? = some d → I i acc m → ∃ f1, T.set d fw = some f1 ∧ wp (tt f1 m) fun c m2 => if c = true then wp (te f1 m2) (fun y m3 => acc.length < 100000 ∧ m3[a]? = some (.lst acc) ∧ I (i + 1) (acc ++ [y]) (m3.set a (.lst (acc ++ [y])))) else I (i + 1) acc m2)
    (he : ∀ acc m, I xs.length acc m → Q (.ref a) m) : wp (loopC src T tt te fw a wfuel 0 m) Q := by
  have key : ∀ (j i : Nat) (acc : List D) (m : MH), i ≤ xs.length → xs.length < i + j → I i acc m → wp (loopC src T tt te fw a j i m) Q := by
    intro j
    induction j with
    | zero => exact fun i acc m h1 h2 _ => absurd h2 (by omega)
    | succ j ih =>
      intro i acc m h1 h2 hi
      have e0 := hsrc i acc m hi
      unfold loopC
      rw [e0]
      cases e : xs[i]? with
      | none =>
        have : i = xs.length := by
          have := List.getElem?_eq_none_iff.mp e
          omega
        subst this
        exact he acc m hi
      | some d =>
        have hlt := (List.getElem?_eq_some_iff.mp e).1
        obtain ⟨f1, e1, q⟩ := hs i d acc m e hi
        simp only [e1]
        revert q
        cases tt f1 m with
        | ok c m2 =>
          cases c with
          | false => exact fun q => ih (i + 1) acc m2 hlt (by omega) q
          | true =>
            intro q
            have q : wp (te f1 m2) _ := q
            dsimp only
            revert q
            cases te f1 m2 with
            | ok y m3 =>
              rintro ⟨q1, q2, q3⟩
              simp only [q2, if_pos q1]
              exact ih (i + 1) (acc ++ [y]) _ hlt (by omega) q3
            | ex _ _ => exact fun q => q.elim
            | no => exact fun q => q.elim
        | ex _ _ => exact fun q => q.elim
        | no => exact fun q => q.elim
  rw [wfuel_eq]
  exact key _ 0 [] m (Nat.zero_le _) (by omega) h0
theorem wp_lc {g : Fr → MH → Out Src} {T : Tg} {tt : Fr → MH → Out Bool} {te : Fr → MH → Out D} {vs : List Nat} {f : Fr} {m : MH} {Q : D → MH → Prop} : wp (gLc g T tt te vs f m) Q = wp (g f m) fun src m1 => wp (loopC src T tt te (wipeD f vs) m1.length wfuel 0 (m1 ++ [.lst []])) Q := by
  unfold gLc
  rw [wp_bind]
/-! ### what is left behind a call -/
theorem eraseDups_nil : ([] : List Nat).eraseDups = [] := rfl
theorem reach_nil {n : Nat} {d : D} {m : MH} (h : ∀ i ∈ d.refs, i < n) : reach n d m = [] := by
  have e : freshOf n d.refs = [] := by
    unfold freshOf
    have : d.refs.filter (fun i => decide (n ≤ i)) = [] := List.filter_eq_nil_iff.mpr fun i hi => by
      have := h i hi
      simp only [decide_eq_true_eq]
      omega
    rw [this]
    rfl
  unfold reach
  rw [e]
  rfl
/-- nothing new is needed: all that is new goes -/
theorem gc_old {m0 m1 : MH} {d : D} (hd : ∀ i ∈ d.refs, i < m0.length) (hl : m0.length ≤ m1.length) (ho : ∀ i, i < m0.length → m1[i]? = m0[i]? ∨ ∀ o, m1[i]? = some o → ∀ j ∈ o.refs, j < m0.length) : gc m0 d m1 = (d, m1.take m0.length) := by
  unfold gc
  rw [reach_nil hd]
  have G : GcOk m0 d m1 [] := ⟨hl, ho, List.Pairwise.nil, fun j hj => (nomatch hj), fun i hi => .inl (hd i hi), fun j hj => (nomatch hj)⟩
  rw [if_pos G]
  have e : d.ren (place m0.length []) = d := D.ren_id d fun i hi => if_pos (hd i hi)
  rw [e]
  simp
/-- one new object, which needs nothing new, is kept -/
theorem reach_one {n a : Nat} {m : MH} {o : MO} (hn : n ≤ a) (ho : m[a]? = some o) (hr : ∀ i ∈ o.refs, i < n) : reach n (.ref a) m = [a] := by
  have e0 : freshOf n (D.ref a).refs = [a] := by
    show (([a] : List Nat).filter fun i => decide (n ≤ i)).eraseDups = [a]
    rw [List.filter_cons_of_pos (by simpa using hn)]
    rfl
  have e1 : needs n m [a] = [a] := by
    unfold needs freshOf
    have : (([a] : List Nat) ++ [a].flatMap fun j => (m[j]?.map MO.refs).getD []).filter (fun i => decide (n ≤ i)) = [a] := by
      rw [List.flatMap_cons, List.flatMap_nil, List.append_nil, ho]
      show ([a] ++ o.refs).filter _ = [a]
      rw [List.filter_append, List.filter_cons_of_pos (by simpa using hn), List.filter_nil, List.filter_eq_nil_iff.mpr fun i hi => ?_]
      · rfl
      · have := hr i hi
        simp only [decide_eq_true_eq]
        omega
    rw [this]
    rfl
  unfold reach
  rw [e0, e1, e1, e1]
theorem gc_one {m0 m1 : MH} {a : Nat} {o : MO} (hn : m0.length ≤ a) (hl : m0.length ≤ m1.length) (ho : m1[a]? = some o) (hr : ∀ i ∈ o.refs, i < m0.length) (hold : ∀ i, i < m0.length → m1[i]? = m0[i]? ∨ ∀ o, m1[i]? = some o → ∀ j ∈ o.refs, j < m0.length) :
    gc m0 (.ref a) m1 = (.ref m0.length, m1.take m0.length ++ [o]) := by
  unfold gc
  rw [reach_one hn ho hr]
  have ha := (List.getElem?_eq_some_iff.mp ho).1
  have G : GcOk m0 (.ref a) m1 [a] := by
    refine ⟨hl, hold, List.pairwise_singleton _ a, fun j hj => ?_, fun i hi => .inr hi, fun j hj o2 e i hi => ?_⟩
    · rw [List.mem_singleton.mp hj]
      exact ⟨hn, ha⟩
    · rw [List.mem_singleton.mp hj, ho] at e
      cases e
      exact .inl (hr i hi)
  rw [if_pos G]
  have p1 : place m0.length [a] a = m0.length := by
    unfold place
    rw [if_neg (by omega)]
    simp
  have e1 : (D.ref a).ren (place m0.length [a]) = .ref m0.length := congrArg D.ref p1
  have e2 : (m1.getD a (.lst [])).ren (place m0.length [a]) = o := by
    rw [List.getD_eq_getElem?_getD, ho]
    exact MO.ren_id o fun i hi => if_pos (hr i hi)
  rw [e1, List.map_cons, List.map_nil, e2]
theorem take_app {m g : MH} : (m ++ g).take m.length = m := by simp
/-! ### what stays -/
/-- all but the object at p stay as they are; new ones may come -/
structure Ext (p : Nat) (m m' : MH) : Prop where
  le : m.length ≤ m'.length
  eq : ∀ i, i < m.length → i ≠ p → m'[i]? = m[i]?
theorem Ext.refl (p : Nat) (m : MH) : Ext p m m := ⟨Nat.le_refl _, fun _ _ _ => rfl⟩
theorem Ext.trans {p : Nat} {m m1 m2 : MH} (a : Ext p m m1) (b : Ext p m1 m2) : Ext p m m2 :=
  ⟨Nat.le_trans a.le b.le, fun i h1 h2 => (b.eq i (Nat.lt_of_lt_of_le h1 a.le) h2).trans (a.eq i h1 h2)⟩
theorem Ext.app {p : Nat} {m g : MH} : Ext p m (m ++ g) := ⟨by rw [List.length_append]; omega, fun i h _ => List.getElem?_append_left h⟩
theorem Ext.take {p : Nat} {m m1 : MH} (a : Ext p m m1) : Ext p m (m1.take m.length) :=
  ⟨by rw [List.length_take]; have := a.le; omega, fun i h1 h2 => by rw [List.getElem?_take_of_lt h1]; exact a.eq i h1 h2⟩
/-- an older object, seen later -/
theorem Ext.get {p : Nat} {m m' : MH} (a : Ext p m m') {i : Nat} {o : MO} (h : m[i]? = some o) (hp : i ≠ p) : m'[i]? = some o := by
  rw [a.eq i (List.getElem?_eq_some_iff.mp h).1 hp]
  exact h
/-- changes of what is new don't count -/
theorem Ext.setNew {p : Nat} {m m1 : MH} (a : Ext p m m1) {j : Nat} {o : MO} (h : m.length ≤ j) : Ext p m (m1.set j o) :=
  ⟨by rw [List.length_set]; exact a.le, fun i h1 h2 => by rw [List.getElem?_set_ne (by omega)]; exact a.eq i h1 h2⟩
/-- behind a call that hands back what needs nothing new -/
theorem gc_ext {p : Nat} {m0 m1 : MH} {d : D} (e : Ext p m0 m1) (hd : ∀ i ∈ d.refs, i < m0.length) (hp : ∀ o, m1[p]? = some o → ∀ j ∈ o.refs, j < m0.length) : gc m0 d m1 = (d, m1.take m0.length) := by
  refine gc_old hd e.le fun i hi => ?_
  by_cases h : i = p
  · subst h
    exact .inr hp
  · exact .inl (e.eq i hi h)
theorem gc_ext1 {p a : Nat} {m0 m1 : MH} {o : MO} (e : Ext p m0 m1) (hn : m0.length ≤ a) (ho : m1[a]? = some o) (hr : ∀ i ∈ o.refs, i < m0.length) (hp : ∀ o, m1[p]? = some o → ∀ j ∈ o.refs, j < m0.length) : gc m0 (.ref a) m1 = (.ref m0.length, m1.take m0.length ++ [o]) := by
  refine gc_one hn e.le ho hr fun i hi => ?_
  by_cases h : i = p
  · subst h
    exact .inr hp
  · exact .inl (e.eq i hi h)
theorem i62_nat {n : Int} (h0 : 0 ≤ n) (h : n < 1000000000) : i62 n := ⟨by omega, by omega⟩
theorem mulOk_l {i j : Int} (h : i.natAbs < 2 ^ 64) : mulOk i j = true := by
  unfold mulOk
  rw [decide_eq_true h]
  rfl
theorem mulOk_r {i j : Int} (h : j.natAbs < 2 ^ 64) : mulOk i j = true := by
  unfold mulOk
  rw [decide_eq_true h, Bool.or_true]
/-- repr of numbers, of truths .. -/
theorem repr_int {i : Int} {m : MH} (h : i.natAbs < 10 ^ 500) : reprF [.int i] m = some (.str (strInt i), m) := by
  have h1 := log_small h
  have ok : shownOk (.int i) = true := by
    unfold shownOk
    rw [PyData.shown_int]
    have e1 : PyData.showable (.int i) = true := decide_eq_true h1
    rw [e1, decide_eq_true (int_text_fits h1)]
    rfl
  unfold reprF
  simp only [toPy_int]
  rw [if_pos ok, PyData.shown_int]
  rfl
end Mn
end

section
/-! Mini, part Q: rewriting of operations under wp. -/
namespace Mn
open PySem PySem.Spec PyProof.Rows L2
section
variable {m : MH} {P : D → MH → Prop} {i j : Int} {x y : Tx} {a : Nat}
theorem up_ite {c : Prop} [Decidable c] {d : D} {m1 : MH} : wp (up (if c then some (d, m1) else none)) P = (c ∧ P d m1) := by
  by_cases h : c
  · rw [if_pos h]
    exact propext ⟨fun z => ⟨h, z⟩, fun z => z.2⟩
  · rw [if_neg h]
    exact propext ⟨fun z => z.elim, fun z => (h z.1).elim⟩
theorem mulOk_iff : (mulOk i j = true) = (i.natAbs < 2 ^ 64 ∨ j.natAbs < 2 ^ 64) := by
  unfold mulOk
  simp only [Bool.or_eq_true, decide_eq_true_eq]
theorem ux_add : wp (up (addD (.int i) (.int j) m)) P = P (.int (i + j)) m := rfl
theorem ux_iadd : wp (up (iaddD (.int i) (.int j) m)) P = P (.int (i + j)) m := rfl
theorem ux_sub : wp (up (subD (.int i) (.int j) m)) P = P (.int (i - j)) m := rfl
theorem ux_mul : wp (up (mulS (.int i) (.int j) m)) P = (mulOk i j = true ∧ P (.int (i * j)) m) := up_ite
theorem ux_div : wp (up (divD (.int i) (.int j) m)) P = ((0 < j ∧ j < 1073741824) ∧ P (.int (i / j)) m) := up_ite
theorem ux_mod : wp (up (modD (.int i) (.int j) m)) P = (0 < j ∧ P (.int (i % j)) m) := up_ite
theorem ux_pow : wp (up (powD (.int i) (.int j) m)) P = ((0 ≤ j ∧ j ≤ 1000 ∧ i.natAbs < 2 ^ 64) ∧ P (.int (i ^ j.toNat)) m) := up_ite
theorem ux_neg : wp (up (negD (.int i) m)) P = P (.int (-i)) m := rfl
theorem ux_eqI : wp (up (eqD (.int i) (.int j) m)) P = P (.bl (decide (i = j))) m := rfl
theorem ux_neI : wp (up (neD (.int i) (.int j) m)) P = P (.bl (!decide (i = j))) m := rfl
theorem ux_eqS : wp (up (eqD (.str x) (.str y) m)) P = P (.bl (decide (x = y))) m := rfl
theorem ux_neS : wp (up (neD (.str x) (.str y) m)) P = P (.bl (!decide (x = y))) m := rfl
theorem ux_lt : wp (up (ltD (.int i) (.int j) m)) P = P (.bl (decide (i < j))) m := rfl
theorem ux_le : wp (up (leD (.int i) (.int j) m)) P = P (.bl (decide (i ≤ j))) m := rfl
theorem ux_gt : wp (up (gtD (.int i) (.int j) m)) P = P (.bl (decide (j < i))) m := rfl
theorem ux_ge : wp (up (geD (.int i) (.int j) m)) P = P (.bl (decide (j ≤ i))) m := rfl
theorem ux_abs : wp (up (absF [.int i] m)) P = P (.int (if i < 0 then -i else i)) m := rfl
theorem ux_max : wp (up (maxF [.int i, .int j] m)) P = P (.int (if j > i then j else i)) m := rfl
theorem ux_min : wp (up (minF [.int i, .int j] m)) P = P (.int (if j < i then j else i)) m := rfl
theorem ux_intI : wp (up (intF [.int i] m)) P = P (.int i) m := rfl
theorem ux_intB {b : Bool} : wp (up (intF [.bl b] m)) P = P (.int (if b then 1 else 0)) m := rfl
theorem ux_repr (h : i.natAbs < 10 ^ 500) : wp (up (reprF [.int i] m)) P = P (.str (strInt i)) m := by
  rw [repr_int h]
  rfl
theorem ux_reprS (h1 : -10000000000000000000000000000000000000000 < i) (h2 : i < 10000000000000000000000000000000000000000) : wp (up (reprF [.int i] m)) P = P (.str (strInt i)) m := by
  apply ux_repr
  have h : i.natAbs < 10 ^ 40 := by
    have : (10 : Nat) ^ 40 = 10000000000000000000000000000000000000000 := rfl
    omega
  exact Nat.lt_of_lt_of_le h (Nat.pow_le_pow_right (by omega) (by omega))
theorem ux_lst {xs : List D} : wp (up (dLst xs m)) P = (xs.length ≤ 100000 ∧ P (.ref m.length) (m ++ [.lst xs])) := up_ite
theorem ux_tup {xs : List D} : wp (up (dTup xs m)) P = (xs.length ≤ 100000 ∧ P (.tup xs) m) := up_ite
theorem ux_lenL {xs : List D} (h : m[a]? = some (.lst xs)) : wp (up (lenF [.ref a] m)) P = P (.int xs.length) m := by
  unfold lenF
  simp only [h]
  rfl
theorem ux_lenT {xs : List D} : wp (up (lenF [.tup xs] m)) P = P (.int xs.length) m := rfl
theorem ux_lenF {xs : List D} : wp (up (lenF [.frl xs] m)) P = P (.int xs.length) m := rfl
theorem ux_lenS : wp (up (lenF [.str x] m)) P = (x.length ≤ 100000 ∧ P (.int x.length) m) := up_ite
theorem ixN_pos {n : Nat} (h0 : 0 ≤ i) (h1 : i < n) : ixN n i = some i.toNat := by
  unfold ixN
  simp [h0, h1]
theorem atI_pos {α : Type} {xs : List α} (h0 : 0 ≤ i) (h1 : i < xs.length) : atI xs i = xs[i.toNat]? := by
  unfold atI
  rw [ixN_pos h0 h1]
  rfl
theorem ux_ixL {xs : List D} (h : m[a]? = some (.lst xs)) (h0 : 0 ≤ i) (h1 : i < xs.length) : wp (up (ixD (.ref a) (.int i) m)) P = ∃ d, xs[i.toNat]? = some d ∧ P d m := by
  unfold ixD
  simp only [h, atI_pos h0 h1]
  have : i.toNat < xs.length := by omega
  rw [List.getElem?_eq_getElem this]
  exact propext ⟨fun z => ⟨_, rfl, z⟩, fun ⟨d, e, z⟩ => by cases e; exact z⟩
theorem ux_ixI {xs : List Int} (h : m[a]? = some (.lst (xs.map D.int))) (h0 : 0 ≤ i) (h1 : i < xs.length) : wp (up (ixD (.ref a) (.int i) m)) P = P (.int (xs.getD i.toNat 0)) m := by
  rw [ux_ixL h h0 (by rw [List.length_map]; exact h1), List.getElem?_map]
  have : i.toNat < xs.length := by omega
  rw [List.getD_eq_getElem?_getD, List.getElem?_eq_getElem this]
  exact propext ⟨fun ⟨d, e, z⟩ => by cases e; exact z, fun z => ⟨_, rfl, z⟩⟩
theorem get_new {o : MO} : (m ++ [o])[m.length]? = some o := by simp
end
/-- a list at hand: one of its items -/
theorem ix_then {m : MH} {P : D → MH → Prop} {a : Nat} {i : Int} {xs : List D} (h : m[a]? = some (.lst xs)) (h0 : 0 ≤ i) (h1 : i < xs.length) (q : ∀ d ∈ xs, P d m) : wp (up (ixD (.ref a) (.int i) m)) P := by
  rw [ux_ixL h h0 h1]
  have hlt : i.toNat < xs.length := by omega
  exact ⟨xs[i.toNat], List.getElem?_eq_getElem hlt, q _ (List.getElem_mem hlt)⟩
theorem ixT_then {m : MH} {P : D → MH → Prop} {i : Int} {xs : List D} (h0 : 0 ≤ i) (h1 : i < xs.length) (q : ∀ d ∈ xs, P d m) : wp (up (ixD (.tup xs) (.int i) m)) P := by
  have hlt : i.toNat < xs.length := by omega
  have e : ixD (.tup xs) (.int i) m = some (xs[i.toNat], m) := by
    show (atI xs i).map (fun d => (d, m)) = _
    rw [atI_pos h0 h1, List.getElem?_eq_getElem hlt]
    rfl
  rw [e]
  exact q _ (List.getElem_mem hlt)
def intIn (lo hi : Int) : D → Bool
  | .int v => decide (lo ≤ v) && decide (v ≤ hi)
  | _ => false
theorem intIn_get {lo hi : Int} {d : D} (h : intIn lo hi d = true) : ∃ v, d = .int v ∧ lo ≤ v ∧ v ≤ hi := by
  cases d with
  | int v =>
    have h : (decide (lo ≤ v) && decide (v ≤ hi)) = true := h
    rw [Bool.and_eq_true, decide_eq_true_eq, decide_eq_true_eq] at h
    exact ⟨v, rfl, h.1, h.2⟩
  | _ => cases h
theorem ixI_then {m : MH} {P : D → MH → Prop} {a : Nat} {i : Int} {xs : List D} (lo hi : Int) (h : m[a]? = some (.lst xs)) (h0 : 0 ≤ i) (h1 : i < xs.length) (hb : xs.all (intIn lo hi) = true) (q : ∀ v, lo ≤ v → v ≤ hi → P (.int v) m) : wp (up (ixD (.ref a) (.int i) m)) P :=
  ix_then h h0 h1 fun d hd => by
    obtain ⟨v, rfl, a, b⟩ := intIn_get (List.all_eq_true.mp hb d hd)
    exact q v a b
/-- a list of numbers from lo to hi -/
def Ints (lo hi : Int) (xs : List D) : Prop := ∀ d ∈ xs, ∃ v, d = .int v ∧ lo ≤ v ∧ v ≤ hi
theorem Ints.nil {lo hi : Int} : Ints lo hi [] := fun d h => nomatch h
theorem Ints.cons {lo hi v : Int} {xs : List D} (h1 : lo ≤ v) (h2 : v ≤ hi) (t : Ints lo hi xs) : Ints lo hi (.int v :: xs) := fun d h => by
  rcases List.mem_cons.mp h with h | h
  · exact ⟨v, h, h1, h2⟩
  · exact t d h
theorem Ints.refs {lo hi : Int} {xs : List D} (h : Ints lo hi xs) {n : Nat} : ∀ d ∈ xs, ∀ i ∈ d.refs, i < n := fun d hd i hi => by
  obtain ⟨v, rfl, _⟩ := h d hd
  simp [D.refs] at hi
theorem Ext.app1 {p : Nat} {m g m' : MH} (e : Ext p (m ++ g) m') : Ext p m m' := Ext.app.trans e
theorem ux_cat {m : MH} {P : D → MH → Prop} {a b : Nat} {xs ys : List D} (h : m[a]? = some (.lst xs)) (h2 : m[b]? = some (.lst ys)) (hl : xs.length + ys.length ≤ 100000) : wp (up (addD (.ref a) (.ref b) m)) P = P (.ref m.length) (m ++ [.lst (xs ++ ys)]) := by
  unfold addD
  simp only [h, h2, if_pos hl]
  rfl
theorem old_app {m g : MH} {a : Nat} {o : MO} (h : m[a]? = some o) : (m ++ g)[a]? = some o := by
  rw [List.getElem?_append_left (List.getElem?_eq_some_iff.mp h).1]
  exact h
theorem keyOf_str {x : Tx} : keyOf (.str x) = some (.inr x) := rfl
theorem keyOf_int {i : Int} : keyOf (.int i) = some (.inl i) := rfl
theorem cutD_map {xs : List Int} {lo hi : Option Int} : cutD (xs.map D.int) lo hi = (cutD xs lo hi).map D.int := by
  unfold cutD
  rw [List.length_map, List.map_take, List.map_drop]
theorem gc_bl {m0 m1 : MH} {b : Bool} : (gc m0 (.bl b) m1).1 = .bl b := by
  unfold gc
  split <;> rfl
/-! ### pens -/
def penD (c : Nat) (n l : Int) : MO := .dct [(.inr [99, 101, 108, 108, 115], .ref c), (.inr [97, 116], .int n), (.inr [108, 101, 102, 116], .int l)]
section
variable {m : MH} {P : D → MH → Prop} {p c : Nat} {n l : Int}
theorem pd_cells (h : m[p]? = some (penD c n l)) : wp (up (ixD (.ref p) (.str [99, 101, 108, 108, 115]) m)) P = P (.ref c) m := by
  unfold ixD
  simp only [h, penD]
  rfl
theorem pd_at (h : m[p]? = some (penD c n l)) : wp (up (ixD (.ref p) (.str [97, 116]) m)) P = P (.int n) m := by
  unfold ixD
  simp only [h, penD]
  rfl
theorem pd_left (h : m[p]? = some (penD c n l)) : wp (up (ixD (.ref p) (.str [108, 101, 102, 116]) m)) P = P (.int l) m := by
  unfold ixD
  simp only [h, penD]
  rfl
theorem pd_setAt {v : Int} (h : m[p]? = some (penD c n l)) : stD (.ref p) (.str [97, 116]) (.int v) m = some (m.set p (penD c v l)) := by
  unfold stD
  simp only [h, penD]
  rfl
theorem pd_setLeft {v : Int} (h : m[p]? = some (penD c n l)) : stD (.ref p) (.str [108, 101, 102, 116]) (.int v) m = some (m.set p (penD c n v)) := by
  unfold stD
  simp only [h, penD]
  rfl
theorem set_get {o o2 : MO} (h : m[p]? = some o) : (m.set p o2)[p]? = some o2 := by
  have := (List.getElem?_eq_some_iff.mp h).1
  rw [List.getElem?_set_self this]
theorem set_ne {o : MO} {q : Nat} (h : q ≠ p) : (m.set p o)[q]? = m[q]? := List.getElem?_set_ne (Ne.symm h)
end
def penL (c : Nat) (n l : Int) : MO := .lst [.ref c, .int n, .int l]
def penO (k : Bool) (c : Nat) (n l : Int) : MO := if k then penD c n l else penL c n l
/-- the pen at p (a dict or a list), with b draws to come -/
structure Pen (k : Bool) (o : Nat) (m : MH) (p b : Nat) : Prop where
  lt : p + o < m.length
  ex : ∃ (c : Nat) (xs : List Int) (n l : Int), (c ≠ p ∧ c ≤ p + o) ∧ m[p]? = some (penO k c n l) ∧ m[c]? = some (.lst (xs.map D.int)) ∧ 0 ≤ n ∧ n + b ≤ 1000000 ∧ 0 ≤ l ∧ xs.length ≤ 63
theorem Pen.keep {k : Bool} {o : Nat} {m m' : MH} {p b : Nat} (h : Pen k o m p b) (hl : m.length ≤ m'.length) (e : ∀ i, i < m.length → m'[i]? = m[i]?) : Pen k o m' p b := by
  obtain ⟨c, xs, n, l, h1, h2, h3, h4⟩ := h.ex
  exact ⟨Nat.lt_of_lt_of_le h.lt hl, c, xs, n, l, h1, by rw [e p (List.getElem?_eq_some_iff.mp h2).1]; exact h2, by rw [e c (List.getElem?_eq_some_iff.mp h3).1]; exact h3, h4⟩
theorem Pen.app {k : Bool} {o : Nat} {m g : MH} {p b : Nat} (h : Pen k o m p b) : Pen k o (m ++ g) p b := h.keep (by rw [List.length_append]; omega) fun i hi => List.getElem?_append_left hi
theorem Pen.take {k : Bool} {o : Nat} {m : MH} {p b n : Nat} (h : Pen k o m p b) (hn : p + o < n) : Pen k o (m.take n) p b := by
  obtain ⟨c, xs, n, l, h1, h2, h3, h4⟩ := h.ex
  exact ⟨by rw [List.length_take]; have := h.lt; omega, c, xs, n, l, h1, by rw [List.getElem?_take_of_lt (by omega)]; exact h2, by rw [List.getElem?_take_of_lt (by omega)]; exact h3, h4⟩
theorem Pen.le {k : Bool} {o : Nat} {m : MH} {p b b' : Nat} (h : Pen k o m p b) (hb : b' ≤ b) : Pen k o m p b' := by
  obtain ⟨c, xs, n, l, h1, h2, h3, h4, h5, h6⟩ := h.ex
  exact ⟨h.lt, c, xs, n, l, h1, h2, h3, h4, by omega, h6⟩
/-- the pen's own object needs nothing new -/
theorem Pen.old {k : Bool} {o : Nat} {m : MH} {p b n : Nat} (h : Pen k o m p b) (hn : p + o < n) : ∀ o, m[p]? = some o → ∀ j ∈ o.refs, j < n := by
  obtain ⟨c, xs, n, l, h1, h2, h3, h4, h5, h6⟩ := h.ex
  intro o e j hj
  rw [h2] at e
  cases e
  have : j ∈ [c] := by cases k <;> exact hj
  rw [List.mem_singleton.mp this]
  omega
theorem PenD_ne {m : MH} {p q b : Nat} {xs : List D} (h : Pen true 1 m p b) (hq : m[q]? = some (.lst xs)) : q ≠ p := fun e => by
  obtain ⟨c, ys, n, l, hc, hp, hx, h2, h3, h4⟩ := h.ex
  subst e
  rw [hp] at hq
  cases hq
/-- behind a call that hands back a number -/
theorem Pen.int {k : Bool} {o : Nat} {m m1 : MH} {p b : Nat} {v : Int} {P : D → MH → Prop} (h : Pen k o m1 p b) (hp : p + o < m.length) (e : Ext p m m1) (q : ∀ m', m'.length = m.length → Ext p m m' → Pen k o m' p b → P (.int v) m') : P (gc m (.int v) m1).1 (gc m (.int v) m1).2 := by
  rw [gc_ext e (fun i hi => by simp [D.refs] at hi) (h.old hp)]
  exact q _ (by rw [List.length_take]; have := e.le; omega) e.take (h.take hp)
/-- behind a draw -/
theorem Pen.fin {k : Bool} {o : Nat} {m : MH} {p b c : Nat} {xs : List Int} {n l n' l' z r : Int} (hl : p + o < m.length) (hc : c ≠ p ∧ c ≤ p + o) (hp : m[p]? = some (penO k c n l)) (hx : m[c]? = some (.lst (xs.map D.int))) (h1 : 0 ≤ n') (h2 : n' + b ≤ 1000000) (h3 : 0 ≤ l') (h4 : 0 ≤ r) (h5 : r < z) (hb : xs.length ≤ 63) :
    ∃ r', (gc m (.int r) (m.set p (penO k c n' l'))).1 = .int r' ∧ 0 ≤ r' ∧ r' < z ∧ (gc m (.int r) (m.set p (penO k c n' l'))).2.length = m.length ∧ Ext p m (gc m (.int r) (m.set p (penO k c n' l'))).2 ∧ Pen k o (gc m (.int r) (m.set p (penO k c n' l'))).2 p b := by
  have e : Ext p m (m.set p (penO k c n' l')) := ⟨by rw [List.length_set]; exact Nat.le_refl _, fun i _ h => set_ne h⟩
  have P : Pen k o (m.set p (penO k c n' l')) p b := ⟨by rw [List.length_set]; exact hl, c, xs, n', l', hc, set_get hp, by rw [set_ne hc.1]; exact hx, h1, h2, h3, hb⟩
  rw [gc_ext e (fun i hi => by simp [D.refs] at hi) (P.old hl)]
  have e2 : (m.set p (penO k c n' l')).take m.length = m.set p (penO k c n' l') := List.take_of_length_le (by rw [List.length_set]; exact Nat.le_refl _)
  show ∃ r', D.int r = .int r' ∧ 0 ≤ r' ∧ r' < z ∧ ((m.set p (penO k c n' l')).take m.length).length = m.length ∧ Ext p m ((m.set p (penO k c n' l')).take m.length) ∧ Pen k o ((m.set p (penO k c n' l')).take m.length) p b
  rw [e2]
  exact ⟨r, rfl, h4, h5, by rw [List.length_set], e, P⟩
theorem refsL_int (xs : List Int) : refsL (xs.map D.int) = [] := by
  induction xs with
  | nil => rfl
  | cons x xs ih => exact ih
/-- what a pen's maker leaves -/
theorem gc_two {o1 o2 : MO} (h1 : o1.refs = [1]) (h2 : o2.refs = []) : gc [] (.ref 0) [o1, o2] = (.ref 0, [o1, o2]) := by
  have n1 : needs 0 [o1, o2] [0] = [0, 1] := by
    have : (([0] : List Nat) ++ [0].flatMap fun j => (([o1, o2] : MH)[j]?.map MO.refs).getD []) = [0, 1] := by
      show [0] ++ (o1.refs ++ []) = [0, 1]
      rw [h1]
      rfl
    unfold needs
    rw [this]
    rfl
  have n2 : needs 0 [o1, o2] [0, 1] = [0, 1] := by
    have : (([0, 1] : List Nat) ++ [0, 1].flatMap fun j => (([o1, o2] : MH)[j]?.map MO.refs).getD []) = [0, 1, 1] := by
      show [0, 1] ++ (o1.refs ++ (o2.refs ++ [])) = [0, 1, 1]
      rw [h1, h2]
      rfl
    unfold needs
    rw [this]
    rfl
  have r : reach 0 (.ref 0) [o1, o2] = [0, 1] := by
    unfold reach
    show needs 0 [o1, o2] (needs 0 [o1, o2] (needs 0 [o1, o2] [0])) = _
    rw [n1, n2, n2]
  have pl : ∀ i, i = 0 ∨ i = 1 → place 0 [0, 1] i = i := by
    rintro i (rfl | rfl) <;> rfl
  unfold gc
  rw [show reach ([] : MH).length (.ref 0) [o1, o2] = [0, 1] from r]
  have G : GcOk [] (.ref 0) [o1, o2] [0, 1] := by
    refine ⟨Nat.zero_le _, fun i hi => absurd hi (Nat.not_lt_zero _), by decide, fun j hj => ?_, fun i hi => ?_, fun j hj o e i hi => ?_⟩
    · simp at hj
      simp
      omega
    · simp [D.refs] at hi
      simp [hi]
    · simp at hj
      rcases hj with rfl | rfl
      · cases e
        rw [h1] at hi
        simp at hi
        simp [hi]
      · cases e
        rw [h2] at hi
        simp at hi
  rw [if_pos G]
  have e1 : (D.ref 0).ren (place 0 [0, 1]) = .ref 0 := rfl
  have e2 : o1.ren (place 0 [0, 1]) = o1 := MO.ren_id o1 fun i hi => pl i (by rw [h1] at hi; simp at hi; exact .inr hi)
  have e3 : o2.ren (place 0 [0, 1]) = o2 := MO.ren_id o2 fun i hi => by rw [h2] at hi; simp at hi
  show ((D.ref 0).ren (place 0 [0, 1]), [o1.ren (place 0 [0, 1]), o2.ren (place 0 [0, 1])]) = _
  rw [e1, e2, e3]
theorem cut63 {xs : List Int} : (cutD xs none (some 63)).length ≤ 63 := by
  unfold cutD
  have e0 : HT.sIx xs.length 0 none = 0 := rfl
  have e1 : HT.sIx xs.length xs.length (some 63) = min 63 xs.length := by
    show (if (63 : Int) < 0 then ((63 : Int) + (xs.length : Int)).toNat else min (63 : Int).toNat xs.length) = _
    rw [if_neg (by omega)]
    rfl
  rw [e0, e1, List.length_take]
  omega
/-- a new pen -/
theorem Pen.newD {xs : List Int} (h : xs.length ≤ 63) : Pen true 1 [penD 1 0 0, .lst (xs.map D.int)] 0 1000000 := ⟨by simp, 1, xs, 0, 0, ⟨by omega, by omega⟩, rfl, rfl, by omega, by omega, by omega, h⟩
theorem Pen.newL {xs : List Int} (h : xs.length ≤ 63) : Pen false 1 [penL 1 0 0, .lst (xs.map D.int)] 0 1000000 := ⟨by simp, 1, xs, 0, 0, ⟨by omega, by omega⟩, rfl, rfl, by omega, by omega, by omega, h⟩
/-- what is set elsewhere does no harm -/
theorem Pen.setNew {k : Bool} {o : Nat} {m : MH} {p b a : Nat} {u : MO} (h : Pen k o m p b) (ha : p + o < a) : Pen k o (m.set a u) p b := by
  obtain ⟨c, xs, n, l, h1, h2, h3, h4⟩ := h.ex
  exact ⟨by rw [List.length_set]; exact h.lt, c, xs, n, l, h1, by rw [List.getElem?_set_ne (by omega)]; exact h2, by rw [List.getElem?_set_ne (by omega)]; exact h3, h4⟩
abbrev PenD := Pen true 1
abbrev PenL := Pen false 1
abbrev PenA := Pen false 0
end Mn
end

section
/-! Mini, part R: data as a whole: what repr shows, what == says. -/
namespace Mn
open PySem PySem.Spec PyProof.Rows L2
section
variable {m : MH}
mutual
theorem toPy_mono1 : ∀ (n : Nat) (d : D) (p : PyData), toPy m n d = some p → toPy m (n + 1) d = some p
  | n, .non, p, h => by rw [toPy_non] at h ⊢; exact h
  | n, .bl b, p, h => by rw [toPy_bl] at h ⊢; exact h
  | n, .int b, p, h => by rw [toPy_int] at h ⊢; exact h
  | n, .str b, p, h => by rw [toPy_str] at h ⊢; exact h
  | n, .cst b, p, h => by rw [toPy_cst] at h; cases h
  | 0, .tup xs, p, h => nomatch h
  | 0, .frl xs, p, h => nomatch h
  | 0, .ref a, p, h => nomatch h
  | n + 1, .tup xs, p, h => by
    have h : (toPys m n xs).map PyData.tuple = some p := h
    show (toPys m (n + 1) xs).map PyData.tuple = some p
    cases e : toPys m n xs with
    | none => rw [e] at h; cases h
    | some ps => rw [toPys_mono1 n xs ps e]; rw [e] at h; exact h
  | n + 1, .frl xs, p, h => by
    have h : (toPys m n xs).map PyData.list = some p := h
    show (toPys m (n + 1) xs).map PyData.list = some p
    cases e : toPys m n xs with
    | none => rw [e] at h; cases h
    | some ps => rw [toPys_mono1 n xs ps e]; rw [e] at h; exact h
  | n + 1, .ref a, p, h => by
    unfold toPy at h ⊢
    split at h
    · rename_i xs hx
      cases e : toPys m n xs with
      | none => rw [e] at h; cases h
      | some ps => rw [toPys_mono1 n xs ps e]; rw [e] at h; exact h
    · cases h
theorem toPys_mono1 : ∀ (n : Nat) (ds : List D) (ps : List PyData), toPys m n ds = some ps → toPys m (n + 1) ds = some ps
  | n, [], ps, h => by rw [toPys_nil] at h ⊢; exact h
  | 0, _ :: _, ps, h => nomatch h
  | n + 1, x :: xs, ps, h => by
    unfold toPys at h ⊢
    cases e1 : toPy m n x with
    | none => rw [e1] at h; cases h
    | some p =>
      cases e2 : toPys m n xs with
      | none => rw [e1, e2] at h; cases h
      | some qs =>
        rw [e1, e2] at h
        rw [toPy_mono1 n x p e1, toPys_mono1 n xs qs e2]
        exact h
end
theorem toPy_mono {n k : Nat} {d : D} {p : PyData} (h : toPy m n d = some p) (hk : n ≤ k) : toPy m k d = some p := by
  obtain ⟨j, rfl⟩ := Nat.exists_eq_add_of_le hk
  clear hk
  induction j with
  | zero => exact h
  | succ j ih => exact toPy_mono1 _ _ _ ih
theorem toPys_mono {n k : Nat} {d : List D} {p : List PyData} (h : toPys m n d = some p) (hk : n ≤ k) : toPys m k d = some p := by
  obtain ⟨j, rfl⟩ := Nat.exists_eq_add_of_le hk
  clear hk
  induction j with
  | zero => exact h
  | succ j ih => exact toPys_mono1 _ _ _ ih
end
/-- d is the datum p: nested k deep at most, of size w at most, its leaves short -/
structure Sh (m : MH) (k w : Nat) (d : D) (p : PyData) : Prop where
  py : toPy m (2 * w + 1) d = some p
  sh : p.showable = true
  nd : p.hasDict = false
  lv : p.leavesShort 13 = true
  cl : p.canLay0 = true
  dp : p.depth ≤ k
  bk : p.bulk ≤ w
structure Shs (m : MH) (k w : Nat) (ds : List D) (ps : List PyData) : Prop where
  py : toPys m (2 * w) ds = some ps
  sh : PyData.showableAll ps = true
  nd : PyData.hasDictAll ps = false
  lv : PyData.leavesShortAll 13 ps = true
  cl : PyData.canLayAll0 ps = true
  dp : PyData.depthAll ps ≤ k
  bk : PyData.bulkAll ps ≤ w
section
variable {m : MH} {k w : Nat}
theorem Sh.le {k2 w2 : Nat} {d : D} {p : PyData} (h : Sh m k w d p) (hk : k ≤ k2) (hw : w ≤ w2) : Sh m k2 w2 d p :=
  ⟨toPy_mono h.py (by omega), h.sh, h.nd, h.lv, h.cl, Nat.le_trans h.dp hk, Nat.le_trans h.bk hw⟩
theorem Shs.le {k2 w2 : Nat} {d : List D} {p : List PyData} (h : Shs m k w d p) (hk : k ≤ k2) (hw : w ≤ w2) : Shs m k2 w2 d p :=
  ⟨toPys_mono h.py (by omega), h.sh, h.nd, h.lv, h.cl, Nat.le_trans h.dp hk, Nat.le_trans h.bk hw⟩
theorem Sh.non : Sh m k w .non .none := ⟨toPy_non, rfl, rfl, rfl, rfl, Nat.zero_le _, Nat.zero_le _⟩
theorem Sh.bl {b : Bool} : Sh m k w (.bl b) (.bool b) := ⟨toPy_bl, rfl, rfl, rfl, rfl, Nat.zero_le _, Nat.zero_le _⟩
theorem Sh.int {i : Int} (h1 : -999999999999 ≤ i) (h2 : i ≤ 999999999999) : Sh m k w (.int i) (.int i) :=
  ⟨toPy_int, decide_eq_true (log_small (Nat.lt_of_lt_of_le (by omega : i.natAbs < 10 ^ 13) (Nat.pow_le_pow_right (by omega) (by omega)))), rfl, decide_eq_true (PyData.shown_int_le2 h1 h2), rfl, Nat.zero_le _, Nat.zero_le _⟩
theorem tx_list (x : Tx) : (tx x).cps.toList = x := by unfold tx; simp
theorem tx_size (x : Tx) : (tx x).cps.size = x.length := by unfold tx; simp
theorem Sh.str {x : Tx} (h : ∀ c ∈ x, c < 0x110000) (hw : x.length ≤ w) : Sh m k w (.str x) (.str (tx x)) := by
  refine ⟨toPy_str, rfl, rfl, ?_, ?_, Nat.zero_le _, ?_⟩
  · show (tx x).cps.toList.all (fun c => decide (c < 16 ^ 8)) = true
    rw [tx_list, List.all_eq_true]
    intro c hc
    have := h c hc
    exact decide_eq_true (by omega)
  · show (tx x).cps.all (· < 0x110000) = true
    rw [Array.all_eq_true_iff_forall_mem]
    intro c hc
    rw [← Array.mem_toList_iff, tx_list] at hc
    exact decide_eq_true (h c hc)
  · show (tx x).cps.size ≤ w
    rw [tx_size]
    exact hw
theorem Shs.nil : Shs m k w [] [] := ⟨toPys_nil, rfl, rfl, rfl, rfl, Nat.zero_le _, Nat.zero_le _⟩
theorem Shs.cons {w1 w2 : Nat} {d : D} {ds : List D} {p : PyData} {ps : List PyData} (h : Sh m k w1 d p) (t : Shs m k w2 ds ps) (hw : w1 + 1 + w2 ≤ w) : Shs m k w (d :: ds) (p :: ps) := by
  refine ⟨?_, ?_, ?_, ?_, ?_, Nat.max_le.mpr ⟨h.dp, t.dp⟩, ?_⟩
  · obtain ⟨j, e⟩ : ∃ j, 2 * w = j + 1 := ⟨2 * w - 1, by omega⟩
    rw [e]
    unfold toPys
    rw [toPy_mono h.py (by omega : 2 * w1 + 1 ≤ j), toPys_mono t.py (by omega : 2 * w2 ≤ j)]
  · show (p.showable && PyData.showableAll ps) = true
    rw [h.sh, t.sh]
    rfl
  · show (p.hasDict || PyData.hasDictAll ps) = false
    rw [h.nd, t.nd]
    rfl
  · show (p.leavesShort 13 && PyData.leavesShortAll 13 ps) = true
    rw [h.lv, t.lv]
    rfl
  · show (p.canLay0 && PyData.canLayAll0 ps) = true
    rw [h.cl, t.cl]
    rfl
  · show p.bulk + 1 + PyData.bulkAll ps ≤ w
    have := h.bk
    have := t.bk
    omega
theorem Sh.tup {ds : List D} {ps : List PyData} (h : Shs m k w ds ps) : Sh m (k + 1) w (.tup ds) (.tuple ps) := by
  refine ⟨?_, h.sh, h.nd, h.lv, h.cl, Nat.succ_le_succ h.dp, h.bk⟩
  show (toPys m (2 * w) ds).map PyData.tuple = _
  rw [h.py]
  rfl
theorem Sh.frl {ds : List D} {ps : List PyData} (h : Shs m k w ds ps) : Sh m (k + 1) w (.frl ds) (.list ps) := by
  refine ⟨?_, h.sh, h.nd, h.lv, h.cl, Nat.succ_le_succ h.dp, h.bk⟩
  show (toPys m (2 * w) ds).map PyData.list = _
  rw [h.py]
  rfl
theorem Sh.lst {a : Nat} {ds : List D} {ps : List PyData} (hm : m[a]? = some (.lst ds)) (h : Shs m k w ds ps) : Sh m (k + 1) w (.ref a) (.list ps) := by
  refine ⟨?_, h.sh, h.nd, h.lv, h.cl, Nat.succ_le_succ h.dp, h.bk⟩
  unfold toPy
  rw [hm]
  show (toPys m (2 * w) ds).map PyData.list = _
  rw [h.py]
  rfl
/-- what repr shows -/
def rT (p : PyData) : Tx := p.shown.cps.toList
theorem Sh.fits {d : D} {p : PyData} (h : Sh m k w d p) (hw : w ≤ 400000) : p.shown.length ≤ sizeLine := by
  have h1 := PyData.shown_le_bulk 13 (by omega) p h.lv
  have h2 := h.bk
  have e : sizeLine = 16777216 := rfl
  have h3 : (13 + 2) * p.bulk ≤ 15 * 400000 := Nat.mul_le_mul (by omega) (by omega)
  omega
theorem repr_sh {d : D} {p : PyData} (h : Sh m k w d p) (hk : k ≤ 60) (hw : w ≤ 400000) : reprF [d] m = some (.str (rT p), m) := by
  unfold reprF
  have e : toPy m pyF d = some p := toPy_mono h.py (by rw [pyF_eq]; omega)
  simp only [e]
  have ok : shownOk p = true := by
    unfold shownOk
    rw [h.sh, h.nd, decide_eq_true (Nat.le_trans h.dp hk), decide_eq_true (h.fits hw)]
    rfl
  rw [if_pos ok]
  rfl
theorem ux_reprP {d : D} {p : PyData} {P : D → MH → Prop} (h : Sh m k w d p) (hk : k ≤ 60) (hw : w ≤ 400000) : wp (up (reprF [d] m)) P = P (.str (rT p)) m := by
  rw [repr_sh h hk hw]
  rfl
/-! ### == of data -/
theorem eqv_refl : ∀ p : PyData, p.hasDict = false → PyData.eqv p p = true := by
  have key : ∀ n : Nat, (∀ p : PyData, sizeOf p ≤ n → p.hasDict = false → PyData.eqv p p = true) ∧ (∀ ps : List PyData, sizeOf ps ≤ n → PyData.hasDictAll ps = false → PyData.eqvAll ps ps = true) := by
    intro n
    induction n with
    | zero =>
      refine ⟨fun p h => ?_, fun ps h => ?_⟩
      · cases p <;> simp at h
      · cases ps <;> simp at h
    | succ n ih =>
      refine ⟨fun p h hd => ?_, fun ps h hd => ?_⟩
      · cases p with
        | none => rfl
        | bool b => exact beq_self_eq_true b
        | int b => exact beq_self_eq_true b
        | str b => exact beq_self_eq_true b
        | list xs => exact ih.2 xs (by simp at h; omega) hd
        | tuple xs => exact ih.2 xs (by simp at h; omega) hd
        | dict xs => cases hd
      · cases ps with
        | nil => rfl
        | cons p ps =>
          have hd : (p.hasDict || PyData.hasDictAll ps) = false := hd
          rw [Bool.or_eq_false_iff] at hd
          show (PyData.eqv p p && PyData.eqvAll ps ps) = true
          simp at h
          rw [ih.1 p (by omega) hd.1, ih.2 ps (by omega) hd.2]
          rfl
  exact fun p => (key (sizeOf p)).1 p (Nat.le_refl _)
theorem Sh.shaped {d : D} {p : PyData} (h : Sh m k w d p) (hk : k ≤ 60) : SeqAt.shaped p = true := by
  unfold SeqAt.shaped
  rw [h.cl, decide_eq_true (by have := h.dp; omega)]
  rfl
theorem eq_sh {k2 w2 : Nat} {a b : D} {p q : PyData} (ha : Sh m k w a p) (hb : Sh m k2 w2 b q) (hk : k ≤ 60) (hk2 : k2 ≤ 60) (hw : w ≤ 400000) (hw2 : w2 ≤ 400000) : eqD a b m = some (.bl (PyData.eqv p q), m) := by
  have e1 : toPy m pyF a = some p := toPy_mono ha.py (by rw [pyF_eq]; omega)
  have e2 : toPy m pyF b = some q := toPy_mono hb.py (by rw [pyF_eq]; omega)
  unfold eqD
  split
  · rw [toPy_int] at e1 e2
    cases e1
    cases e2
    rfl
  · rw [toPy_str] at e1 e2
    cases e1
    cases e2
    rename_i m3 x y
    have : decide (x = y) = (tx x == tx y) := by
      by_cases h : x = y
      · subst h
        simp
      · have : tx x ≠ tx y := fun e => h (by rw [← tx_list x, ← tx_list y, e])
        rw [decide_eq_false h]
        exact (beq_eq_false_iff_ne.mpr this).symm
    rw [this]
    rfl
  · rw [toPy_bl] at e1 e2
    cases e1
    cases e2
    rename_i m3 x y
    cases x <;> cases y <;> rfl
  · simp only [e1, e2]
    rw [ha.shaped hk, hb.shaped hk2]
    rfl
theorem ux_eqP {k2 w2 : Nat} {a b : D} {p q : PyData} {P : D → MH → Prop} (ha : Sh m k w a p) (hb : Sh m k2 w2 b q) (hk : k ≤ 60) (hk2 : k2 ≤ 60) (hw : w ≤ 400000) (hw2 : w2 ≤ 400000) : wp (up (eqD a b m)) P = P (.bl (PyData.eqv p q)) m := by
  rw [eq_sh ha hb hk hk2 hw hw2]
  rfl
theorem ux_neP {k2 w2 : Nat} {a b : D} {p q : PyData} {P : D → MH → Prop} (ha : Sh m k w a p) (hb : Sh m k2 w2 b q) (hk : k ≤ 60) (hk2 : k2 ≤ 60) (hw : w ≤ 400000) (hw2 : w2 ≤ 400000) : wp (up (neD a b m)) P = P (.bl (!PyData.eqv p q)) m := by
  unfold neD
  rw [eq_sh ha hb hk hk2 hw hw2]
  rfl
end
section
variable {m : MH} {P : D → MH → Prop} {a b c d e f : D} {t : List D}
theorem ux_t0 : wp (up (ixD (.tup (a :: t)) (.int 0) m)) P = P a m := by
  have : atI (a :: t) 0 = some a := by
    rw [atI_pos (by omega) (by rw [List.length_cons]; omega)]
    rfl
  show wp (up ((atI (a :: t) 0).map fun d => (d, m))) P = _
  rw [this]
  rfl
theorem ux_t1 : wp (up (ixD (.tup (a :: b :: t)) (.int 1) m)) P = P b m := by
  have : atI (a :: b :: t) 1 = some b := by
    rw [atI_pos (by omega) (by rw [List.length_cons, List.length_cons]; omega)]
    rfl
  show wp (up ((atI (a :: b :: t) 1).map fun d => (d, m))) P = _
  rw [this]
  rfl
theorem ux_t2 : wp (up (ixD (.tup (a :: b :: c :: t)) (.int 2) m)) P = P c m := by
  have : atI (a :: b :: c :: t) 2 = some c := by
    rw [atI_pos (by omega) (by simp only [List.length_cons]; omega)]
    rfl
  show wp (up ((atI (a :: b :: c :: t) 2).map fun d => (d, m))) P = _
  rw [this]
  rfl
theorem ux_t3 : wp (up (ixD (.tup (a :: b :: c :: d :: t)) (.int 3) m)) P = P d m := by
  have : atI (a :: b :: c :: d :: t) 3 = some d := by
    rw [atI_pos (by omega) (by simp only [List.length_cons]; omega)]
    rfl
  show wp (up ((atI (a :: b :: c :: d :: t) 3).map fun d => (d, m))) P = _
  rw [this]
  rfl
theorem ux_t4 : wp (up (ixD (.tup (a :: b :: c :: d :: e :: t)) (.int 4) m)) P = P e m := by
  have : atI (a :: b :: c :: d :: e :: t) 4 = some e := by
    rw [atI_pos (by omega) (by simp only [List.length_cons]; omega)]
    rfl
  show wp (up ((atI (a :: b :: c :: d :: e :: t) 4).map fun d => (d, m))) P = _
  rw [this]
  rfl
theorem ux_t5 : wp (up (ixD (.tup (a :: b :: c :: d :: e :: f :: t)) (.int 5) m)) P = P f m := by
  have : atI (a :: b :: c :: d :: e :: f :: t) 5 = some f := by
    rw [atI_pos (by omega) (by simp only [List.length_cons]; omega)]
    rfl
  show wp (up ((atI (a :: b :: c :: d :: e :: f :: t) 5).map fun d => (d, m))) P = _
  rw [this]
  rfl
theorem flat_refs {xs : List D} {n : Nat} (h : xs.all flatD = true) : ∀ d ∈ xs, ∀ i ∈ d.refs, i < n := fun d hd i hi => by
  have q := List.all_eq_true.mp h d hd
  cases d <;> first | (simp [D.refs] at hi; done) | cases q
/-- a text of at most n signs -/
def strIn (n : Nat) : D → Bool
  | .str x => decide (x.length ≤ n) && x.all fun c => decide (c < 0x110000)
  | _ => false
theorem strIn_get {n : Nat} {d : D} (h : strIn n d = true) : ∃ x, d = .str x ∧ x.length ≤ n ∧ ∀ c ∈ x, c < 0x110000 := by
  cases d with
  | str x =>
    have h : (decide (x.length ≤ n) && x.all fun c => decide (c < 0x110000)) = true := h
    rw [Bool.and_eq_true, decide_eq_true_eq, List.all_eq_true] at h
    exact ⟨x, rfl, h.1, fun c hc => of_decide_eq_true (h.2 c hc)⟩
  | _ => cases h
theorem gc_same {d : D} (h : ∀ i ∈ d.refs, i < m.length) : gc m d m = (d, m) := by
  rw [gc_old h (Nat.le_refl _) fun i hi => .inl rfl, List.take_length]
/-- behind a call that touched nothing -/
theorem gc_then {d : D} (h : ∀ i ∈ d.refs, i < m.length) (q : P d m) : P (gc m d m).1 (gc m d m).2 := by
  rw [gc_same h]
  exact q
end
end Mn
end

section
/-! Mini, part S: comprehensions and loops of the usual kinds. -/
namespace Mn
open PySem PySem.Spec PyProof.Rows L2

/-- [g(x) for x in xs if f(x)], where nothing is touched -/
theorem lc_pure {T : Tg} {tt : Fr → MH → Out Bool} {te : Fr → MH → Out D} {fw : Fr} {m : MH} {Q : D → MH → Prop} {src : Src} {xs : List D} (F : D → Bool) (G : D → D) (hn : xs.length ≤ 100000) (hs : ∀ i acc, src i (m ++ [.lst acc]) = some xs[i]?)
    (h : ∀ d ∈ xs, ∀ acc, ∃ f1, T.set d fw = some f1 ∧ wp (tt f1 (m ++ [.lst acc])) fun c m2 => c = F d ∧ m2 = m ++ [.lst acc] ∧ (c = true → wp (te f1 (m ++ [.lst acc])) fun y m3 => y = G d ∧ m3 = m ++ [.lst acc]))
    (q : Q (.ref m.length) (m ++ [.lst ((xs.filter F).map G)])) : wp (loopC src T tt te fw m.length wfuel 0 (m ++ [.lst []])) Q := by
  refine wp_loopC (xs := xs) (by omega) (fun i acc m' => m' = m ++ [.lst acc] ∧ acc = ((xs.take i).filter F).map G) ⟨rfl, rfl⟩ (fun i acc m' z => by rw [z.1]; exact hs i acc) ?_ ?_ ?_
  · rintro i acc m' ⟨rfl, _⟩
    exact get_new
  · rintro i d acc m' hd ⟨rfl, ha⟩
    have hlt := (List.getElem?_eq_some_iff.mp hd).1
    have hm := List.mem_of_getElem? hd
    obtain ⟨f1, e1, q1⟩ := h d hm acc
    refine ⟨f1, e1, wp_mono q1 ?_⟩
    rintro c m2 ⟨rfl, rfl, q2⟩
    have tk : xs.take (i + 1) = xs.take i ++ [d] := by
      rw [List.take_add_one, hd]
      rfl
    have sz : acc.length ≤ i := by
      rw [ha, List.length_map]
      refine Nat.le_trans (List.length_filter_le _ _) ?_
      rw [List.length_take]
      omega
    cases hc : F d with
    | true =>
      rw [if_pos rfl]
      refine wp_mono (q2 hc) ?_
      rintro y m3 ⟨rfl, rfl⟩
      refine ⟨by omega, get_new, by simp, ?_⟩
      rw [tk, List.filter_append, List.map_append, ← ha]
      have : List.filter F [d] = [d] := by
        rw [List.filter_cons_of_pos hc]
        rfl
      rw [this]
      rfl
    | false =>
      rw [if_neg (by decide)]
      refine ⟨rfl, ?_⟩
      rw [tk, List.filter_append]
      have : List.filter F [d] = [] := by
        rw [List.filter_cons_of_neg (by rw [hc]; decide)]
        rfl
      rw [this, List.append_nil]
      exact ha
  · rintro acc m' ⟨rfl, ha⟩
    rw [List.take_length] at ha
    rw [ha]
    exact q
/-- [e for k in range(n)], where the pen is drawn from: what comes of each is C -/
theorem lc_pen {k : Bool} {o : Nat} {j p b c : Nat} {te : Fr → MH → Out D} {fw : Fr} {m : MH} {Q : D → MH → Prop} {lo : Int} {n : Nat} (C : D → Prop) (hn : n ≤ 100000) (h0 : Pen k o m p (b + c * n))
    (h : ∀ i m1 b1, i < n → Ext p m m1 → Pen k o m1 p (b1 + c) → m1.length > m.length → wp (te (fw.set j (some (.int (lo + (i : Nat) * 1)))) m1) fun y m2 => C y ∧ Ext p m1 m2 ∧ Pen k o m2 p b1)
    (q : ∀ acc m1, acc.length = n → (∀ d ∈ acc, C d) → m1[m.length]? = some (.lst acc) → Ext p m m1 → Pen k o m1 p b → Q (.ref m.length) m1) : wp (loopC (rngS lo 1 n) (.nm j) gYes te fw m.length wfuel 0 (m ++ [.lst []])) Q := by
  have hp := h0.lt
  have key := @wp_loopC (rngS lo 1 n) (.nm j) gYes te fw m.length Q ((List.range n).map fun i => .int (lo + (i : Nat) * 1)) (by simp; omega) (m ++ [.lst []])
    (fun i acc m1 => acc.length = i ∧ (∀ d ∈ acc, C d) ∧ m1[m.length]? = some (.lst acc) ∧ Ext p m m1 ∧ i ≤ n ∧ Pen k o m1 p (b + c * (n - i)))
    ⟨rfl, (fun d hd => nomatch hd), get_new, Ext.app, Nat.zero_le _, h0.app⟩
  refine key ?_ ?_ ?_ ?_
  · intro i acc m1 _
    unfold rngS
    by_cases hlt : i < n
    · rw [if_pos hlt, List.getElem?_map, List.getElem?_range hlt]
      rfl
    · rw [if_neg hlt, List.getElem?_eq_none (by simp; omega)]
  · intro i acc m1 z
    exact z.2.2.1
  · intro i d acc m1 hd ⟨h1, h2, h3, h4, h5, h6⟩
    have hlt : i < n := by
      have := (List.getElem?_eq_some_iff.mp hd).1
      simpa using this
    rw [List.getElem?_map, List.getElem?_range hlt] at hd
    cases hd
    refine ⟨_, rfl, ?_⟩
    show wp (.ok true m1) _
    rw [wp_ok, if_pos rfl]
    have h6' : Pen k o m1 p (b + c * (n - (i + 1)) + c) := by
      have : b + c * (n - (i + 1)) + c = b + c * (n - i) := by
        have e : n - i = (n - (i + 1)) + 1 := by omega
        rw [e, Nat.mul_add, Nat.mul_one]
        omega
      rw [this]
      exact h6
    have hl := (List.getElem?_eq_some_iff.mp h3).1
    refine wp_mono (h i m1 (b + c * (n - (i + 1))) hlt h4 h6' hl) ?_
    rintro y m2 ⟨y1, y2, y3⟩
    have g := y2.get h3 (by omega)
    have hl2 := (List.getElem?_eq_some_iff.mp g).1
    refine ⟨by omega, g, by simp [h1], fun d hd => ?_, set_get g, (h4.trans y2).setNew (Nat.le_refl _), hlt, y3.setNew (by omega)⟩
    rcases List.mem_append.mp hd with hd | hd
    · exact h2 d hd
    · rw [List.mem_singleton.mp hd]
      exact y1
  · intro acc m1 ⟨h1, h2, h3, h4, h5, h6⟩
    have e : ((List.range n).map fun i => D.int (lo + (i : Nat) * 1)).length = n := by simp
    rw [e] at h1 h5 h6
    rw [Nat.sub_self, Nat.mul_zero, Nat.add_zero] at h6
    exact q acc m1 h1 h2 h3 h4 h6
/-- the signs of a text, one by one -/
def sgs (x : Tx) : List D := x.map fun c => .str [c]
theorem it_str {x : Tx} {m : MH} {P : Src → MH → Prop} : wp (itD (.str x) m) P = P (fixS (sgs x)) m := rfl
theorem it_tup {x : List D} {m : MH} {P : Src → MH → Prop} : wp (itD (.tup x) m) P = P (fixS x) m := rfl
theorem it_frl {x : List D} {m : MH} {P : Src → MH → Prop} : wp (itD (.frl x) m) P = P (fixS x) m := rfl
theorem it_lst {x : List D} {m : MH} {a : Nat} {P : Src → MH → Prop} (h : m[a]? = some (.lst x)) : wp (itD (.ref a) m) P = P (lstS a) m := by
  unfold itD
  simp only [h]
  rfl
theorem fix_src {xs : List D} {m : MH} : ∀ (i : Nat) (acc : List D), fixS xs i (m ++ [.lst acc]) = some xs[i]? := fun _ _ => rfl
theorem lst_src {xs : List D} {m : MH} {a : Nat} (h : m[a]? = some (.lst xs)) : ∀ (i : Nat) (acc : List D), lstS a i (m ++ [.lst acc]) = some xs[i]? := fun i acc => by
  unfold lstS
  rw [old_app h]
/-- texts -/
theorem strs_get {R : Tx → Prop} : ∀ acc : List D, (∀ d ∈ acc, ∃ x, d = .str x ∧ R x) → ∃ ys : List Tx, acc = ys.map D.str ∧ ∀ y ∈ ys, R y
  | [], _ => ⟨[], rfl, fun y hy => nomatch hy⟩
  | d :: ds, h => by
    obtain ⟨x, rfl, hx⟩ := h d List.mem_cons_self
    obtain ⟨ys, rfl, hy⟩ := strs_get ds fun d hd => h d (List.mem_cons_of_mem _ hd)
    exact ⟨x :: ys, rfl, fun y hm => by
      rcases List.mem_cons.mp hm with e | e
      · rw [e]
        exact hx
      · exact hy y e⟩
theorem txsOf_map : ∀ ys : List Tx, txsOf (ys.map D.str) = some ys
  | [] => rfl
  | y :: ys => by
    show (match txOf (.str y), txsOf (ys.map D.str) with | some x, some xs => some (x :: xs) | _, _ => none) = _
    rw [txsOf_map ys]
    rfl
theorem joinTx_nil : ∀ ys : List Tx, joinTx [] ys = ys.flatten
  | [] => rfl
  | [x] => by simp [joinTx]
  | x :: y :: l => by
    show x ++ [] ++ joinTx [] (y :: l) = _
    rw [joinTx_nil (y :: l), List.append_nil]
    rfl
theorem ux_join {m : MH} {P : D → MH → Prop} {a : Nat} {s : Tx} {ys : List Tx} (h : m[a]? = some (.lst (ys.map D.str))) (hl : (ys.map (·.length)).sum + ys.length * s.length ≤ 100000) : wp (up (joinM (.str s) [.ref a] m)) P = P (.str (joinTx s ys)) m := by
  unfold joinM itemsOf
  simp only [h]
  show wp (up (match txsOf (ys.map D.str) with | some ys => _ | none => none)) P = _
  rw [txsOf_map]
  simp only [if_pos hl]
  rfl
theorem ux_joinT {m : MH} {P : D → MH → Prop} {s : Tx} {ys : List Tx} (hl : (ys.map (·.length)).sum + ys.length * s.length ≤ 100000) : wp (up (joinM (.str s) [.tup (ys.map D.str)] m)) P = P (.str (joinTx s ys)) m := by
  unfold joinM itemsOf
  show wp (up (match txsOf (ys.map D.str) with | some ys => _ | none => none)) P = _
  rw [txsOf_map]
  simp only [if_pos hl]
  rfl
theorem isTx_str {x : Tx} {m : MH} : isTx (.str x) m = true := rfl
theorem isLs_ref {a : Nat} {xs : List D} {m : MH} (h : m[a]? = some (.lst xs)) : isLs (.ref a) m = true := by
  unfold isLs
  simp only [h]
theorem ux_app {m : MH} {P : D → MH → Prop} {a : Nat} {xs : List D} {v : D} (h : m[a]? = some (.lst xs)) (hl : xs.length < 100000) : wp (up (appM (.ref a) [v] m)) P = P .non (m.set a (.lst (xs ++ [v]))) := by
  unfold appM
  simp only [h, if_pos hl]
  rfl
/-- a text's sign -/
theorem ux_ixS {m : MH} {P : D → MH → Prop} {x : Tx} {i : Int} (h0 : 0 ≤ i) (h1 : i < x.length) (hl : x.length ≤ 100000) : wp (up (ixD (.str x) (.int i) m)) P = P (.str [x.getD i.toNat 0]) m := by
  have hlt : i.toNat < x.length := by omega
  show wp (up (if x.length ≤ 100000 then (atI x i).map fun c => (D.str [c], m) else none)) P = _
  rw [if_pos hl, atI_pos h0 h1, List.getElem?_eq_getElem hlt, List.getD_eq_getElem?_getD, List.getElem?_eq_getElem hlt]
  rfl
/-- the letters a to z -/
def abc : Tx := [97, 98, 99, 100, 101, 102, 103, 104, 105, 106, 107, 108, 109, 110, 111, 112, 113, 114, 115, 116, 117, 118, 119, 120, 121, 122]
theorem mem_abc {c : Nat} : c ∈ abc ↔ 97 ≤ c ∧ c ≤ 122 := by
  unfold abc
  simp only [List.mem_cons, List.not_mem_nil, or_false]
  omega
theorem ux_inS {m : MH} {P : D → MH → Prop} {c : Nat} {y : Tx} : wp (up (inD (.str [c]) (.str y) m)) P = P (.bl (decide (c ∈ y))) m := rfl
theorem ux_leS {m : MH} {P : D → MH → Prop} {a b : Nat} : wp (up (leD (.str [a]) (.str [b]) m)) P = P (.bl (decide (a ≤ b))) m := by
  have : (!decide (([b] : List Nat) < [a])) = decide (a ≤ b) := by
    by_cases h : a ≤ b
    · rw [decide_eq_true h, decide_eq_false]
      · rfl
      · intro q
        rw [List.cons_lt_cons_iff] at q
        rcases q with q | q
        · omega
        · exact absurd q.2 (List.not_lt_nil _)
    · rw [decide_eq_false h, decide_eq_true]
      · rfl
      · rw [List.cons_lt_cons_iff]
        exact .inl (by omega)
  show P (.bl (!decide (([b] : List Nat) < [a]))) m = _
  rw [this]
theorem blsOf_map {α : Type} (f : α → Bool) : ∀ xs : List α, blsOf (xs.map fun a => .bl (f a)) = some (xs.map f)
  | [] => rfl
  | x :: xs => by
    show (match isB (.bl (f x)), blsOf (xs.map fun a => D.bl (f a)) with | some b, some bs => some (b :: bs) | _, _ => none) = _
    rw [blsOf_map f xs]
    rfl
theorem ux_all {m : MH} {P : D → MH → Prop} {a : Nat} {bs : List D} {cs : List Bool} (h : m[a]? = some (.lst bs)) (hb : blsOf bs = some cs) : wp (up (allF [.ref a] m)) P = P (.bl (cs.all id)) m := by
  unfold allF
  simp only [h, hb]
  rfl
theorem ux_isi {m : MH} {P : D → MH → Prop} {d : D} {c j : Nat} (h : tyNo d m = some j) (hc : c < 6) : wp (up (isiF [d, .cst c] m)) P = P (.bl (j == c || (j == 2 && c == 1))) m := by
  unfold isiF
  simp only [h, if_pos hc]
  rfl
/-- behind a call that left new objects which aren't needed -/
theorem gc_drop {m g : MH} {d : D} (h : ∀ i ∈ d.refs, i < m.length) : gc m d (m ++ g) = (d, m) := by
  rw [gc_old h (by simp) fun i hi => .inl (List.getElem?_append_left hi)]
  simp
theorem gc_thenD {m g : MH} {P : D → MH → Prop} {d : D} (h : ∀ i ∈ d.refs, i < m.length) (q : P d m) : P (gc m d (m ++ g)).1 (gc m d (m ++ g)).2 := by
  rw [gc_drop h]
  exact q
theorem no_refs_bl {b : Bool} {n : Nat} : ∀ i ∈ (D.bl b).refs, i < n := fun i hi => by simp [D.refs] at hi
theorem no_refs_int {b : Int} {n : Nat} : ∀ i ∈ (D.int b).refs, i < n := fun i hi => by simp [D.refs] at hi
theorem no_refs_str {b : Tx} {n : Nat} : ∀ i ∈ (D.str b).refs, i < n := fun i hi => by simp [D.refs] at hi
theorem no_refs_non {n : Nat} : ∀ i ∈ (D.non).refs, i < n := fun i hi => by simp [D.refs] at hi
def pyS (y : Tx) : PyData := .str (tx y)
theorem shs_strs {m : MH} {k n : Nat} : ∀ ys : List Tx, (∀ y ∈ ys, y.length ≤ n ∧ ∀ c ∈ y, c < 0x110000) → Shs m k ((n + 1) * ys.length) (ys.map D.str) (ys.map pyS)
  | [], _ => .nil
  | y :: ys, h => by
    have h1 := h y List.mem_cons_self
    have t := shs_strs (m := m) (k := k) ys fun y hy => h y (List.mem_cons_of_mem _ hy)
    refine .cons (.str h1.2 h1.1) t ?_
    rw [List.length_cons, Nat.mul_add, Nat.mul_one]
    omega
theorem eqv_nil (ps : List PyData) : PyData.eqv (.list ps) (.list []) = ps.isEmpty := by
  cases ps <;> rfl
theorem sgs_all {x : Tx} {d : D} (h : d ∈ sgs x) : ∃ c, d = .str [c] ∧ c ∈ x := by
  unfold sgs at h
  obtain ⟨c, hc, rfl⟩ := List.mem_map.mp h
  exact ⟨c, rfl, hc⟩
theorem ux_isiS {m : MH} {P : D → MH → Prop} {x : Tx} : wp (up (isiF [.str x, .cst 0] m)) P = P (.bl true) m := rfl
theorem ux_isiN {m : MH} {P : D → MH → Prop} {d : D} {j : Nat} (h : tyNo d m = some (j + 1)) : wp (up (isiF [d, .cst 0] m)) P = P (.bl false) m := by
  rw [ux_isi h (by decide)]
  have : (j + 1 == 0 || (j + 1 == 2 && 0 == 1)) = false := by simp
  rw [this]
theorem filter_yes {α : Type} (xs : List α) : xs.filter (fun _ => true) = xs := List.filter_eq_self.mpr fun _ _ => rfl
theorem eqB_not {b : Bool} : (!decide (b = b)) = false := by simp
section
variable {m : MH} {P : D → MH → Prop} {p c : Nat} {n l v : Int}
theorem pl_ix {xs : List D} {i : Int} {d : D} (h : m[p]? = some (.lst xs)) (e : atI xs i = some d) : wp (up (ixD (.ref p) (.int i) m)) P = P d m := by
  unfold ixD
  simp only [h, e]
  rfl
theorem pl_0 (h : m[p]? = some (penL c n l)) : wp (up (ixD (.ref p) (.int 0) m)) P = P (.ref c) m := pl_ix h rfl
theorem pl_1 (h : m[p]? = some (penL c n l)) : wp (up (ixD (.ref p) (.int 1) m)) P = P (.int n) m := pl_ix h rfl
theorem pl_2 (h : m[p]? = some (penL c n l)) : wp (up (ixD (.ref p) (.int 2) m)) P = P (.int l) m := pl_ix h rfl
theorem pl_set1 (h : m[p]? = some (penL c n l)) : stD (.ref p) (.int 1) (.int v) m = some (m.set p (penL c v l)) := by
  unfold stD
  simp only [h, penL]
  rfl
theorem pl_set2 (h : m[p]? = some (penL c n l)) : stD (.ref p) (.int 2) (.int v) m = some (m.set p (penL c n v)) := by
  unfold stD
  simp only [h, penL]
  rfl
theorem stir {X M K w N : Int} (h0 : 0 ≤ n) (h1 : n ≤ 1000000) (hM : 0 < M) (hM2 : M ≤ 2147483648) (hK : 0 ≤ K) (hK2 : K ≤ 10000000) (hN : 0 < N) (hN2 : N ≤ 2147483648) : (X % M * (n + K) + w % N).natAbs < 18446744073709551616 := by
  have a1 := Int.emod_nonneg X (show M ≠ 0 by omega)
  have a2 := Int.emod_lt_of_pos X hM
  have b1 := Int.emod_nonneg w (show N ≠ 0 by omega)
  have b2 := Int.emod_lt_of_pos w hN
  have c1 : 0 ≤ X % M * (n + K) := Int.mul_nonneg a1 (by omega)
  have c2 : X % M * (n + K) ≤ 2147483648 * 11000000 := Int.mul_le_mul (by omega) (by omega) (by omega) (by omega)
  omega
theorem mul_small {a b A B : Int} (h0 : 0 ≤ a) (h1 : a ≤ A) (h2 : 0 ≤ b) (h3 : b ≤ B) : 0 ≤ a * b ∧ a * b ≤ A * B :=
  ⟨Int.mul_nonneg h0 h2, Int.mul_le_mul h1 h3 h2 (by omega)⟩
end
/-- a list pen and its cells are what a pen's maker leaves -/
theorem gc_penL {m1 : MH} {a c : Nat} {o : MO} (h : m1[a]? = some (.lst [.ref c, .int 0, .int 0])) (hc : m1[c]? = some o) (ho : o.refs = []) (ne : c ≠ a) : gc [] (.ref a) m1 = (.ref 0, [penL 1 0 0, o]) := by
  have la := (List.getElem?_eq_some_iff.mp h).1
  have lc := (List.getElem?_eq_some_iff.mp hc).1
  have eb : (c == a) = false := beq_eq_false_iff_ne.mpr ne
  have f1 : freshOf 0 [a] = [a] := rfl
  have e2 : freshOf 0 [a, c] = [a, c] := by
    unfold freshOf
    show ([a, c] : List Nat).eraseDups = _
    rw [List.eraseDups_cons, List.filter_cons, List.filter_nil, eb]
    rfl
  have e3 : freshOf 0 [a, c, c] = [a, c] := by
    unfold freshOf
    show ([a, c, c] : List Nat).eraseDups = _
    rw [List.eraseDups_cons, List.filter_cons, List.filter_cons, List.filter_nil, eb]
    show a :: ([c, c] : List Nat).eraseDups = _
    rw [List.eraseDups_cons, List.filter_cons, List.filter_nil, beq_self_eq_true]
    rfl
  have n1 : needs 0 m1 [a] = [a, c] := by
    unfold needs
    rw [List.flatMap_cons, List.flatMap_nil, h]
    exact e2
  have n2 : needs 0 m1 [a, c] = [a, c] := by
    unfold needs
    rw [List.flatMap_cons, List.flatMap_cons, List.flatMap_nil, h, hc]
    show freshOf 0 ([a, c] ++ ([c] ++ (o.refs ++ []))) = _
    rw [ho]
    exact e3
  have r : reach 0 (.ref a) m1 = [a, c] := by
    unfold reach
    show needs 0 m1 (needs 0 m1 (needs 0 m1 (freshOf 0 [a]))) = _
    rw [f1, n1, n2, n2]
  have pa : place 0 [a, c] a = 0 := by
    unfold place
    rw [if_neg (Nat.not_lt_zero _), List.idxOf_cons_self]
  have pc : place 0 [a, c] c = 1 := by
    unfold place
    have eb2 : (a == c) = false := beq_eq_false_iff_ne.mpr (Ne.symm ne)
    rw [if_neg (Nat.not_lt_zero _), List.idxOf_cons, eb2, cond_false, List.idxOf_cons_self]
  unfold gc
  rw [show reach ([] : MH).length (.ref a) m1 = [a, c] from r]
  have G : GcOk [] (.ref a) m1 [a, c] := by
    refine ⟨Nat.zero_le _, fun i hi => absurd hi (Nat.not_lt_zero _), ?_, fun j hj => ?_, fun i hi => ?_, fun j hj o' e i hi => ?_⟩
    · simp
      exact Ne.symm ne
    · simp at hj
      rcases hj with rfl | rfl
      · exact ⟨Nat.zero_le _, la⟩
      · exact ⟨Nat.zero_le _, lc⟩
    · simp [D.refs] at hi
      simp [hi]
    · simp at hj
      rcases hj with rfl | rfl
      · rw [h] at e
        cases e
        simp [MO.refs, refsL, D.refs] at hi
        simp [hi]
      · rw [hc] at e
        cases e
        rw [ho] at hi
        simp at hi
  rw [if_pos G]
  have e1 : (D.ref a).ren (place 0 [a, c]) = .ref 0 := congrArg D.ref pa
  have d1 : m1.getD a (.lst []) = .lst [.ref c, .int 0, .int 0] := by
    rw [List.getD_eq_getElem?_getD, h]
    rfl
  have d2 : m1.getD c (.lst []) = o := by
    rw [List.getD_eq_getElem?_getD, hc]
    rfl
  have g1 : (MO.lst [.ref c, .int 0, .int 0]).ren (place 0 [a, c]) = penL 1 0 0 := by
    show MO.lst [.ref (place 0 [a, c] c), .int 0, .int 0] = _
    rw [pc]
    rfl
  have g2 : o.ren (place 0 [a, c]) = o := MO.ren_id o fun i hi => by rw [ho] at hi; simp at hi
  show ((D.ref a).ren (place 0 [a, c]), [(m1.getD a (.lst [])).ren (place 0 [a, c]), (m1.getD c (.lst [])).ren (place 0 [a, c])]) = _
  rw [e1, d1, d2, g1, g2]
end Mn
end

section
/-! Mini, part T: comprehensions by index, with things left lying about; pairs; more of in. -/
namespace Mn
open PySem PySem.Spec PyProof.Rows L2

theorem get_newc {m g : MH} {o : MO} : (m ++ o :: g)[m.length]? = some o := by simp
theorem set_newc {m g : MH} {o o2 : MO} : (m ++ o :: g).set m.length o2 = m ++ o2 :: g := by
  rw [List.set_append_right _ _ (Nat.le_refl _), Nat.sub_self]
  rfl
/-- [G for .. in src if F], by the index -/
theorem lc_ix {T : Tg} {tt : Fr → MH → Out Bool} {te : Fr → MH → Out D} {fw : Fr} {m : MH} {Q : D → MH → Prop} {src : Src} {n : Nat} (it : Nat → D) (F : Nat → Bool) (G : Nat → D) (hn : n ≤ 100000)
    (hs : ∀ i acc g, src i (m ++ .lst acc :: g) = some (if i < n then some (it i) else none))
    (h : ∀ i acc g, i < n → ∃ f1, T.set (it i) fw = some f1 ∧ wp (tt f1 (m ++ .lst acc :: g)) fun c m2 => c = F i ∧ ∃ g2, m2 = m ++ .lst acc :: g2 ∧ (F i = true → wp (te f1 (m ++ .lst acc :: g2)) fun y m3 => y = G i ∧ ∃ g3, m3 = m ++ .lst acc :: g3))
    (q : ∀ g, Q (.ref m.length) (m ++ .lst (((List.range n).filter F).map G) :: g)) : wp (loopC src T tt te fw m.length wfuel 0 (m ++ [.lst []])) Q := by
  refine wp_loopC (xs := (List.range n).map it) (by simp; omega) (fun i acc m' => (∃ g, m' = m ++ .lst acc :: g) ∧ acc = ((List.range i).filter F).map G) ⟨⟨[], rfl⟩, rfl⟩ ?_ ?_ ?_ ?_
  · rintro i acc m' ⟨⟨g, rfl⟩, _⟩
    rw [hs]
    by_cases hlt : i < n
    · rw [if_pos hlt, List.getElem?_map, List.getElem?_range hlt]
      rfl
    · rw [if_neg hlt, List.getElem?_eq_none (by simp; omega)]
  · rintro i acc m' ⟨⟨g, rfl⟩, _⟩
    exact get_newc
  · rintro i d acc m' hd ⟨⟨g, rfl⟩, ha⟩
    have hlt : i < n := by
      have := (List.getElem?_eq_some_iff.mp hd).1
      simpa using this
    rw [List.getElem?_map, List.getElem?_range hlt] at hd
    cases hd
    obtain ⟨f1, e1, q1⟩ := h i acc g hlt
    refine ⟨f1, e1, wp_mono q1 ?_⟩
    rintro c m2 ⟨rfl, g2, rfl, q2⟩
    have sz : acc.length ≤ i := by
      rw [ha, List.length_map]
      refine Nat.le_trans (List.length_filter_le _ _) ?_
      rw [List.length_range]
      exact Nat.le_refl _
    have tk : ((List.range (i + 1)).filter F).map G = acc ++ (([i].filter F).map G) := by
      rw [List.range_succ, List.filter_append, List.map_append, ← ha]
    cases hc : F i with
    | true =>
      rw [if_pos rfl]
      refine wp_mono (q2 hc) ?_
      rintro y m3 ⟨rfl, g3, rfl⟩
      refine ⟨by omega, get_newc, ⟨g3, set_newc⟩, ?_⟩
      rw [tk, List.filter_cons_of_pos hc]
      rfl
    | false =>
      rw [if_neg (by decide)]
      refine ⟨⟨g2, rfl⟩, ?_⟩
      rw [tk, List.filter_cons_of_neg (by rw [hc]; decide)]
      simp
  · rintro acc m' ⟨⟨g, rfl⟩, ha⟩
    have : ((List.range n).map it).length = n := by simp
    rw [this] at ha
    rw [ha]
    exact q g
theorem rng_ix {lo : Int} {n : Nat} {m : MH} : ∀ (i : Nat) (acc : List D) (g : MH), rngS lo 1 n i (m ++ .lst acc :: g) = some (if i < n then some (.int (lo + (i : Nat) * 1)) else none) := fun i acc g => by
  unfold rngS
  by_cases h : i < n
  · rw [if_pos h, if_pos h]
  · rw [if_neg h, if_neg h]
theorem fix_ix {xs : List D} {m : MH} : ∀ (i : Nat) (acc : List D) (g : MH), fixS xs i (m ++ .lst acc :: g) = some (if i < xs.length then some (xs.getD i .non) else none) := fun i acc g => by
  unfold fixS
  by_cases h : i < xs.length
  · rw [if_pos h, List.getD_eq_getElem?_getD, List.getElem?_eq_getElem h]
    rfl
  · rw [if_neg h, List.getElem?_eq_none (by omega)]
theorem en_ix {xs : List D} {m : MH} : ∀ (i : Nat) (acc : List D) (g : MH), enS (fixS xs) i (m ++ .lst acc :: g) = some (if i < xs.length then some (.tup [.int (i : Nat), xs.getD i .non]) else none) := fun i acc g => by
  unfold enS
  rw [fix_ix]
  by_cases h : i < xs.length
  · rw [if_pos h, if_pos h]
    rfl
  · rw [if_neg h, if_neg h]
    rfl
theorem lst_ix {xs : List D} {m : MH} {a : Nat} (h : m[a]? = some (.lst xs)) : ∀ (i : Nat) (acc : List D) (g : MH), lstS a i (m ++ .lst acc :: g) = some (if i < xs.length then some (xs.getD i .non) else none) := fun i acc g => by
  unfold lstS
  rw [old_app h]
  exact fix_ix (m := m) i acc g
theorem wp_enum {t : Fr → MH → Out (List D)} {f : Fr} {m : MH} {P : Src → MH → Prop} : wp (gEnum t f m) P = wp (t f m) fun xs m1 => match xs with
    | [.ref n] => (match m1[n]? with
      | some (.lst _) => P (enS (lstS n)) m1
      | _ => False)
    | [.frl xs] => P (enS (fixS xs)) m1
    | [.tup xs] => P (enS (fixS xs)) m1
    | _ => False := by
  unfold gEnum
  rw [wp_bind]
  congr 1
  funext xs m1
  split
  all_goals first | rfl | (split <;> first | rfl | simp_all [wp]) | simp_all [wp]
/-! pairs of a number and a text -/
theorem sh_pair {m : MH} {a : Int} {s : Tx} (h1 : -999999999999 ≤ a) (h2 : a ≤ 999999999999) (hs : s.length ≤ 100) (hc : ∀ c ∈ s, c < 0x110000) : Sh m 1 102 (.tup [.int a, .str s]) (.tuple [.int a, .str (tx s)]) :=
  .tup (.cons (.int (w := 0) h1 h2) (.cons (.str hc hs) (.nil (w := 0)) (Nat.le_refl _)) (by omega))
theorem tx_deq (x y : Tx) : (tx x == tx y) = decide (x = y) := by
  rw [tx_beq]
  by_cases h : x = y
  · subst h
    simp
  · rw [decide_eq_false h]
    exact beq_eq_false_iff_ne.mpr h
theorem eqv_pair {a b : Int} {s t : Tx} : PyData.eqv (.tuple [.int a, .str (tx s)]) (.tuple [.int b, .str (tx t)]) = decide ((a, s) = (b, t)) := by
  show ((a == b) && ((tx s == tx t) && true)) = _
  rw [tx_deq, Bool.and_true]
  by_cases h : a = b
  · by_cases h2 : s = t
    · subst h h2
      simp
    · have : ¬ (a, s) = (b, t) := fun e => h2 (Prod.mk.inj e).2
      rw [decide_eq_false h2, decide_eq_false this, Bool.and_false]
  · have : ¬ (a, s) = (b, t) := fun e => h (Prod.mk.inj e).1
    rw [beq_eq_false_iff_ne.mpr h, decide_eq_false this, Bool.false_and]
theorem ux_inP {m : MH} {k w k2 w2 a : Nat} {d : D} {p : PyData} {xs : List D} {ps : List PyData} {P : D → MH → Prop} (h : m[a]? = some (.lst xs)) (hd : Sh m k w d p) (hx : Shs m k2 w2 xs ps) (hf : flatD d = false) (hk : k ≤ 60) (hk2 : k2 ≤ 59) (hw : w ≤ 400000) (hw2 : w2 ≤ 400000) :
    wp (up (inD d (.ref a) m)) P = P (.bl (ps.any fun z => PyData.eqv z p)) m := by
  have e1 : toPy m pyF d = some p := toPy_mono hd.py (by rw [pyF_eq]; omega)
  have e2 : toPys m pyF xs = some ps := toPys_mono hx.py (by rw [pyF_eq]; omega)
  have s1 := hd.shaped hk
  have s2 : SeqAt.shaped (.list ps) = true := by
    unfold SeqAt.shaped
    have c : PyData.canLay0 (.list ps) = true := hx.cl
    have dd : PyData.depth (.list ps) ≤ 64 := by
      show PyData.depthAll ps + 1 ≤ 64
      have := hx.dp
      omega
    rw [c, decide_eq_true dd]
    rfl
  unfold inD
  simp only [h, hf, e1, e2, s1, s2, Bool.false_and, Bool.and_self, if_true, Bool.false_eq_true, if_false]
  rfl
theorem ux_notInP {m : MH} {k w k2 w2 a : Nat} {d : D} {p : PyData} {xs : List D} {ps : List PyData} {P : D → MH → Prop} (h : m[a]? = some (.lst xs)) (hd : Sh m k w d p) (hx : Shs m k2 w2 xs ps) (hf : flatD d = false) (hk : k ≤ 60) (hk2 : k2 ≤ 59) (hw : w ≤ 400000) (hw2 : w2 ≤ 400000) :
    wp (up (notInD d (.ref a) m)) P = P (.bl (!ps.any fun z => PyData.eqv z p)) m := by
  have q := ux_inP (P := fun d' m' => P (match d' with | .bl b => .bl (!b) | d => d) m') h hd hx hf hk hk2 hw hw2
  unfold notInD
  cases e : inD d (.ref a) m with
  | none =>
    rw [e] at q
    have : False = P (.bl (!ps.any fun z => PyData.eqv z p)) m := q
    rw [← this]
    rfl
  | some r =>
    obtain ⟨d', m'⟩ := r
    have q2 : ∀ P : D → MH → Prop, P d' m' = P (.bl (ps.any fun z => PyData.eqv z p)) m := fun P => by
      have := ux_inP (P := P) h hd hx hf hk hk2 hw hw2
      rw [e] at this
      exact this
    have e1 : d' = .bl (ps.any fun z => PyData.eqv z p) ∧ m' = m := Eq.mpr (q2 fun a b => a = .bl (ps.any fun z => PyData.eqv z p) ∧ b = m) ⟨rfl, rfl⟩
    obtain ⟨rfl, rfl⟩ := e1
    rfl
/-- a number in a list of numbers -/
theorem ux_notInI {m : MH} {P : D → MH → Prop} {a : Nat} {i : Int} {js : List Int} (h : m[a]? = some (.lst (js.map D.int))) : wp (up (notInD (.int i) (.ref a) m)) P = P (.bl (!decide (i ∈ js))) m := by
  have fl : (flatD (.int i) && (js.map D.int).all flatD) = true := by
    rw [List.all_map]
    show (true && js.all _) = true
    rw [Bool.true_and, List.all_eq_true]
    exact fun _ _ => rfl
  have e : ((js.map D.int).any fun z => eqF z (.int i)) = decide (i ∈ js) := by
    rw [List.any_map]
    show js.any (fun j => j == i) = _
    rw [List.any_beq']
    exact List.contains_eq_mem i js
  unfold notInD inD
  simp only [h, fl, if_true, e]
  rfl
/-! lists of pairs of a number and a text -/
abbrev Tr := List (Int × Tx)
def trE (t : Int × Tx) : D := .tup [.int t.1, .str t.2]
def trD (l : Tr) : List D := l.map trE
def pyT (t : Int × Tx) : PyData := .tuple [.int t.1, .str (tx t.2)]
def TrE (t : Int × Tx) : Prop := -1000000 ≤ t.1 ∧ t.1 ≤ 1000000 ∧ t.2.length ≤ 10 ∧ ∀ c ∈ t.2, c < 0x110000
def TrOk (l : Tr) : Prop := ∀ t ∈ l, TrE t
theorem sh_trE {m : MH} {t : Int × Tx} (h : TrE t) : Sh m 1 102 (trE t) (pyT t) := sh_pair (by have := h.1; omega) (by have := h.2.1; omega) (by have := h.2.2.1; omega) h.2.2.2
theorem shs_tr {m : MH} : ∀ l : Tr, TrOk l → Shs m 1 (103 * l.length) (trD l) (l.map pyT)
  | [], _ => .nil
  | t :: l, h => by
    refine .cons (sh_trE (h t List.mem_cons_self)) (shs_tr l fun t ht => h t (List.mem_cons_of_mem _ ht)) ?_
    rw [List.length_cons]
    omega
theorem sh_tr {m : MH} {l : Tr} (h : TrOk l) : Sh m 2 (103 * l.length) (.tup (trD l)) (.tuple (l.map pyT)) := .tup (shs_tr l h)
theorem trD_len {l : Tr} : (trD l).length = l.length := List.length_map _
theorem trD_app {l l2 : Tr} : trD l ++ trD l2 = trD (l ++ l2) := (List.map_append ..).symm
theorem trD_get {l : Tr} {i : Nat} (h : i < l.length) : (trD l).getD i .non = trE (l.getD i (0, [])) := by
  unfold trD
  rw [List.getD_eq_getElem?_getD, List.getD_eq_getElem?_getD, List.getElem?_map, List.getElem?_eq_getElem h]
  rfl
theorem getD_mem {l : Tr} {i : Nat} (h : i < l.length) : l.getD i (0, []) ∈ l := by
  rw [List.getD_eq_getElem?_getD, List.getElem?_eq_getElem h]
  exact List.getElem_mem h
theorem ux_trGet {m : MH} {P : D → MH → Prop} {l : Tr} {i : Nat} (h : i < l.length) : wp (up (ixD (.tup (trD l)) (.int (i : Nat)) m)) P = P (trE (l.getD i (0, []))) m := by
  have e : atI (trD l) (i : Int) = some (trE (l.getD i (0, []))) := by
    rw [atI_pos (by omega) (by rw [trD_len]; omega)]
    have : (i : Int).toNat = i := rfl
    rw [this, ← trD_get h, List.getD_eq_getElem?_getD, List.getElem?_eq_getElem (by rw [trD_len]; exact h)]
    rfl
  show wp (up ((atI (trD l) (i : Int)).map fun d => (d, m))) P = _
  rw [e]
  rfl
theorem tr_refs {l : Tr} {n : Nat} : ∀ i ∈ (D.tup (trD l)).refs, i < n := fun i hi => by
  have : refsL (trD l) = [] := by
    induction l with
    | nil => rfl
    | cons t l ih =>
      show (refsL [.int t.1, .str t.2]) ++ refsL (trD l) = []
      rw [ih (by
        have e : (D.tup (trD (t :: l))).refs = (D.tup (trD l)).refs := rfl
        rw [← e]
        exact hi)]
      rfl
  have hi : i ∈ refsL (trD l) := hi
  rw [this] at hi
  simp at hi
theorem trE_refs {t : Int × Tx} {n : Nat} : ∀ i ∈ (trE t).refs, i < n := fun i hi => by
  have hi : i ∈ ([] : List Nat) := hi
  simp at hi
theorem eqv_trE {t u : Int × Tx} : PyData.eqv (pyT t) (pyT u) = decide (t = u) := eqv_pair
theorem any_trE {t : Int × Tx} : ∀ l : Tr, ((l.map pyT).any fun z => PyData.eqv z (pyT t)) = decide (t ∈ l)
  | [] => rfl
  | u :: l => by
    rw [List.map_cons, List.any_cons, any_trE l, eqv_trE]
    by_cases h : u = t
    · subst h
      simp
    · simp [h, Ne.symm h]
theorem filter_trD {f : D → Bool} {g : Int × Tx → Bool} {l : Tr} (h : ∀ t ∈ l, f (trE t) = g t) : (trD l).filter f = trD (l.filter g) := by
  unfold trD
  rw [List.filter_map]
  congr 1
  exact List.filter_congr h
theorem TrOk.filter {l : Tr} {f : Int × Tx → Bool} (h : TrOk l) : TrOk (l.filter f) := fun t ht => h t (List.mem_filter.mp ht).1
theorem TrOk.app {l l2 : Tr} (h : TrOk l) (h2 : TrOk l2) : TrOk (l ++ l2) := fun t ht => (List.mem_append.mp ht).elim (h t) (h2 t)
theorem TrOk.one {t : Int × Tx} (h : TrE t) : TrOk [t] := fun u hu => by
  rw [List.mem_singleton.mp hu]
  exact h
theorem ux_tupL {m : MH} {P : D → MH → Prop} {a : Nat} {xs : List D} (h : m[a]? = some (.lst xs)) : wp (up (tupF [.ref a] m)) P = P (.tup xs) m := by
  unfold tupF
  simp only [h]
  rfl
/-- behind a call that hands back a value that needs nothing new -/
theorem Pen.val {k : Bool} {o : Nat} {m m1 : MH} {p b : Nat} {d : D} {P : D → MH → Prop} (h : Pen k o m1 p b) (hp : p + o < m.length) (e : Ext p m m1) (hd : ∀ i ∈ d.refs, i < m.length) (q : ∀ m', m'.length = m.length → Ext p m m' → Pen k o m' p b → P d m') : P (gc m d m1).1 (gc m d m1).2 := by
  rw [gc_ext e hd (h.old hp)]
  exact q _ (by rw [List.length_take]; have := e.le; omega) e.take (h.take hp)
theorem ux_catT {m : MH} {P : D → MH → Prop} {x y : List D} (h : x.length + y.length ≤ 100000) : wp (up (addD (.tup x) (.tup y) m)) P = P (.tup (x ++ y)) m := by
  show wp (up (if x.length + y.length ≤ 100000 then some (D.tup (x ++ y), m) else none)) P = _
  rw [if_pos h]
  rfl
theorem ux_slL {m : MH} {P : D → MH → Prop} {a : Nat} {xs : List D} {lo hi : Option Int} (h : m[a]? = some (.lst xs)) : wp (up (slD (.ref a) lo hi m)) P = P (.ref m.length) (m ++ [.lst (cutD xs lo hi)]) := by
  unfold slD
  simp only [h]
  rfl
theorem ux_slT {m : MH} {P : D → MH → Prop} {xs : List D} {lo hi : Option Int} : wp (up (slD (.tup xs) lo hi m)) P = P (.tup (cutD xs lo hi)) m := rfl
theorem cutD_mapG {α β : Type} {f : α → β} {xs : List α} {lo hi : Option Int} : cutD (xs.map f) lo hi = (cutD xs lo hi).map f := by
  unfold cutD
  rw [List.length_map, List.map_take, List.map_drop]
theorem mem_cutD {α : Type} {xs : List α} {lo hi : Option Int} {x : α} (h : x ∈ cutD xs lo hi) : x ∈ xs := List.mem_of_mem_drop (List.mem_of_mem_take h)
/-- behind a call that hands back a new list of plain values -/
theorem gc_list {m g : MH} {o : MO} (h : o.refs = []) : gc m (.ref m.length) (m ++ o :: g) = (.ref m.length, m ++ [o]) := by
  rw [gc_one (a := m.length) (o := o) (Nat.le_refl _) (by simp) get_newc (fun i hi => by rw [h] at hi; simp at hi) fun i hi => .inl (List.getElem?_append_left hi)]
  simp
theorem gc_thenL {m g : MH} {o : MO} {P : D → MH → Prop} (h : o.refs = []) (q : P (.ref m.length) (m ++ [o])) : P (gc m (.ref m.length) (m ++ o :: g)).1 (gc m (.ref m.length) (m ++ o :: g)).2 := by
  rw [gc_list h]
  exact q
theorem refsL_flat : ∀ xs : List D, (∀ d ∈ xs, d.refs = []) → refsL xs = []
  | [], _ => rfl
  | d :: ds, h => by
    show d.refs ++ refsL ds = []
    rw [h d List.mem_cons_self, refsL_flat ds fun e he => h e (List.mem_cons_of_mem _ he)]
    rfl
/-- the last of a list -/
theorem ux_ixLast {m : MH} {P : D → MH → Prop} {a : Nat} {xs : List D} {d : D} (h : m[a]? = some (.lst (xs ++ [d]))) : wp (up (ixD (.ref a) (.int (-1)) m)) P = P d m := by
  refine pl_ix h ?_
  unfold atI ixN
  rw [if_neg (by omega), List.length_append, List.length_cons, List.length_nil, if_pos (by omega)]
  have : ((-1 : Int) + ((xs.length + (0 + 1) : Nat) : Int)).toNat = xs.length := by omega
  show (xs ++ [d])[((-1 : Int) + ((xs.length + (0 + 1) : Nat) : Int)).toNat]? = some d
  rw [this]
  simp
theorem ux_mapStr {ys : List Tx} : ∀ d ∈ ys.map D.str, d.refs = [] := fun d hd => by
  obtain ⟨y, _, rfl⟩ := List.mem_map.mp hd
  rfl
end Mn
end

section
/-! Mini, part U: built-ins with keywords. -/
namespace Mn
open PySem PySem.Spec PyProof.Rows L2
/-- f(args, names = ..) of a built-in -/
def gFnK (F : List D → List D → MH → Opt D) (t tk : Fr → MH → Out (List D)) : Fr → MH → Out D := fun f m => (t f m).bind fun xs m1 => (tk f m1).bind fun zs m2 => up (F xs zs m2)
def rNK (k : Kx) (F : List D → List D → MH → Opt D) : List V → List V → Hp → VK → Prop := fun xs zs H Q => ∃ r m ds es, HR k r m H ∧ RVs k r H ds xs ∧ RVs k r H es zs ∧ Ok k (RV k) r H (F ds es m) Q
def minOfI (x : Int) (xs : List Int) : Int := xs.foldl (fun a y => if y < a then y else a) x
def mindD : List D → List D → MH → Opt D
  | [.ref a], [d], m => match m[a]? with
    | some (.lst xs) => match intsOf xs with
      | some [] => some (d, m)
      | some (j :: js) => some (.int (minOfI j js), m)
      | none => none
    | _ => none
  | _, _, _ => none
section
variable {X : Cx} {W : WX} {k : Kx} {n : Nat}
theorem gFnK_reads {F : List D → List D → MH → Opt D} {t tk : Fr → MH → Out (List D)} {σ : L2.St} {H : Hp} {Q : VK} (h : tM k (RV k) W (gFnK F t tk) σ H Q) : tCKw (rNK k F) (tM k (RVs k) W t) (tM k (RVs k) W tk) σ H Q := by
  refine tM_bind h fun xs r f m vs H1 hf hr hv q => tM_of hf hr (Fi.bind q fun zs m2 r2 us H2 p kp hr2 hu q2 => ⟨r2, m2, xs, zs, hr2, RVs.more p kp xs vs hv, hu, Fi.ok q2⟩)
theorem se_cbk {F : List D → List D → MH → Opt D} {t tk : Fr → MH → Out (List D)} {e : Expr} (h : PE X e (tCKw (rNK k F) (tM k (RVs k) W t) (tM k (RVs k) W tk))) : SE X W k e (gFnK F t tk) :=
  ⟨fun pins s σ H Q I hw => h.run pins s σ H Q I (gFnK_reads hw)⟩
theorem cr_mind (A : At X W k n) : CallRK X (.builtin "min") [Str.ofString "default"] (rNK k mindD) := by
  intro pins s σ H xs zs us ws Q I rs rz h
  obtain ⟨r, m, ds, es, hr, hds, hes, q⟩ := h
  unfold mindD at q
  split at q
  · obtain ⟨w, rfl, a, rfl, ea⟩ := rv1 hds
    obtain ⟨u, rfl, hu⟩ := rv1 hes
    obtain ⟨wz, rfl, rzz⟩ := vals1 rz
    split at q
    · rename_i xs hx
      obtain ⟨ys, hy, hv⟩ := hr.ob _ _ a hx ea
      obtain rfl := Vals.ref1 rs
      have hs : SqL X.K H a ys := .of hy
      obtain ⟨its, rv, hl, hz⟩ := I.list hs
      cases e : intsOf xs with
      | none =>
        rw [e] at q
        exact q.elim
      | some bs =>
        rw [e] at q
        have e2 := ints_rv hv e
        subst e2
        have hi := rv.ints
        refine PySem.W.min_list_datum_default (α := Int) (xs := bs) (I.ok.hd A.calm) hl.isList ⟨[], by rw [List.toList_toArray]; exact ints_readAll _ hi⟩ (by have := hu64 A; show X.A.units + 1 + 0 < cLine; omega) ?_ ?_
        · rintro rfl h' tk hk
          exact ⟨u, H, I.kept (t' := tk) hk, rzz, Ok.pure q hr hu⟩
        · rintro y ys i v h' tk rfl hiv ⟨as, hv'⟩ hk
          have hv' : Reads h' v (.int (PySem.W.minOf y ys)) as := hv'
          have em : PySem.W.minOf y ys = minOfI y ys := by
            unfold PySem.W.minOf minOfI
            congr 1
            funext a b
            show (if decide (b < a) = true then b else a) = _
            by_cases hlt : b < a
            · rw [if_pos hlt, if_pos (decide_eq_true hlt)]
            · rw [if_neg hlt, decide_eq_false hlt]
              rfl
          rw [em] at hv'
          cases hv' with
          | int i t => exact ⟨.int _, H, I.kept (t' := tk) hk, ⟨_, rfl⟩, Ok.pure q hr rfl⟩
    · exact q.elim
  · exact q.elim
end
theorem wp_fnK {F : List D → List D → MH → Opt D} {t tk : Fr → MH → Out (List D)} {f : Fr} {m : MH} {P : D → MH → Prop} : wp (gFnK F t tk f m) P = wp (t f m) fun xs m1 => wp (tk f m1) fun zs m2 => wp (up (F xs zs m2)) P := by
  unfold gFnK
  simp only [wp_bind]
def minOr (n : Int) : List Int → Int
  | [] => n
  | j :: js => minOfI j js
theorem intsOf_map : ∀ js : List Int, intsOf (js.map D.int) = some js
  | [] => rfl
  | j :: js => by
    show (intsOf (js.map D.int)).map (j :: ·) = _
    rw [intsOf_map js]
    rfl
theorem ux_mind {m : MH} {P : D → MH → Prop} {a : Nat} {js : List Int} {n : Int} (h : m[a]? = some (.lst (js.map D.int))) : wp (up (mindD [.ref a] [.int n] m)) P = P (.int (minOr n js)) m := by
  unfold mindD
  simp only [h, intsOf_map]
  cases js <;> rfl
theorem minOfI_le (x : Int) (xs : List Int) : minOfI x xs ≤ x ∧ (∀ y ∈ xs, minOfI x xs ≤ y) ∧ minOfI x xs ∈ x :: xs := by
  induction xs generalizing x with
  | nil => exact ⟨Int.le_refl _, (fun y hy => nomatch hy), List.mem_cons_self⟩
  | cons z zs ih =>
    have e : minOfI x (z :: zs) = minOfI (if z < x then z else x) zs := rfl
    rw [e]
    have f1 : (if z < x then z else x) ≤ x := by split <;> omega
    have f2 : (if z < x then z else x) ≤ z := by split <;> omega
    have f3 : (if z < x then z else x) = x ∨ (if z < x then z else x) = z := by
      by_cases h : z < x
      · exact .inr (if_pos h)
      · exact .inl (if_neg h)
    generalize (if z < x then z else x) = v at f1 f2 f3
    obtain ⟨h1, h2, h3⟩ := ih v
    refine ⟨by omega, fun y hy => ?_, ?_⟩
    · rcases List.mem_cons.mp hy with r | r
      · rw [r]
        omega
      · exact h2 y r
    · rcases List.mem_cons.mp h3 with r | r
      · rw [r]
        rcases f3 with r2 | r2
        · rw [r2]
          exact List.mem_cons_self
        · rw [r2]
          exact List.mem_cons_of_mem _ List.mem_cons_self
      · exact List.mem_cons_of_mem _ (List.mem_cons_of_mem _ r)
theorem minOr_spec (n : Int) (xs : List Int) : (xs = [] ∧ minOr n xs = n) ∨ (minOr n xs ∈ xs ∧ ∀ y ∈ xs, minOr n xs ≤ y) := by
  cases xs with
  | nil => exact .inl ⟨rfl, rfl⟩
  | cons x xs =>
    obtain ⟨h1, h2, h3⟩ := minOfI_le x xs
    exact .inr ⟨h3, fun y hy => (List.mem_cons.mp hy).elim (fun e => e ▸ h1) (h2 y)⟩
end Mn
end

section
/-! Mini, part V: texts, slices, lists at the heap's end. -/
namespace Mn
open PySem PySem.Spec PyProof.Rows L2
section
variable {α : Type} {xs : List α} {i j : Int}
theorem cut_to (h : 0 ≤ i) : cutD xs none (some i) = xs.take i.toNat := by
  unfold cutD
  have e0 : HT.sIx xs.length 0 none = 0 := rfl
  have e1 : HT.sIx xs.length xs.length (some i) = min i.toNat xs.length := by
    show (if i < 0 then (i + (xs.length : Int)).toNat else min i.toNat xs.length) = _
    rw [if_neg (by omega)]
  rw [e0, e1, List.drop_zero, Nat.sub_zero]
  by_cases h2 : i.toNat ≤ xs.length
  · rw [Nat.min_eq_left h2]
  · rw [Nat.min_eq_right (by omega), List.take_of_length_le (Nat.le_refl _), List.take_of_length_le (by omega)]
theorem cut_from (h : 0 ≤ i) : cutD xs (some i) none = xs.drop i.toNat := by
  unfold cutD
  have e0 : HT.sIx xs.length xs.length none = xs.length := rfl
  have e1 : HT.sIx xs.length 0 (some i) = min i.toNat xs.length := by
    show (if i < 0 then (i + (xs.length : Int)).toNat else min i.toNat xs.length) = _
    rw [if_neg (by omega)]
  rw [e0, e1]
  by_cases h2 : i.toNat ≤ xs.length
  · rw [Nat.min_eq_left h2, List.take_of_length_le (by rw [List.length_drop]; omega)]
  · rw [Nat.min_eq_right (by omega), List.drop_of_length_le (Nat.le_refl _), List.drop_of_length_le (by omega), List.take_nil]
theorem cut_mid (h : 0 ≤ i) (h2 : 0 ≤ j) : cutD xs (some i) (some j) = (xs.drop i.toNat).take (j.toNat - i.toNat) := by
  unfold cutD
  have e0 : HT.sIx xs.length xs.length (some j) = min j.toNat xs.length := by
    show (if j < 0 then (j + (xs.length : Int)).toNat else min j.toNat xs.length) = _
    rw [if_neg (by omega)]
  have e1 : HT.sIx xs.length 0 (some i) = min i.toNat xs.length := by
    show (if i < 0 then (i + (xs.length : Int)).toNat else min i.toNat xs.length) = _
    rw [if_neg (by omega)]
  rw [e0, e1]
  by_cases h3 : i.toNat ≤ xs.length
  · rw [Nat.min_eq_left h3]
    by_cases h4 : j.toNat ≤ xs.length
    · rw [Nat.min_eq_left h4]
    · have h5 : min j.toNat xs.length = xs.length := by omega
      rw [h5, List.take_of_length_le (by rw [List.length_drop]; omega), List.take_of_length_le (by rw [List.length_drop]; omega)]
  · have h5 : min i.toNat xs.length = xs.length := by omega
    rw [h5, List.drop_of_length_le (Nat.le_refl _), List.drop_of_length_le (by omega), List.take_nil, List.take_nil]
theorem cut_all : cutD xs none none = xs := by
  unfold cutD
  have e0 : HT.sIx xs.length xs.length none = xs.length := rfl
  have e1 : HT.sIx xs.length 0 none = 0 := rfl
  rw [e0, e1, List.drop_zero, Nat.sub_zero, List.take_length]
theorem cut_last : cutD xs (some (-1)) none = xs.drop (xs.length - 1) := by
  unfold cutD
  have e0 : HT.sIx xs.length xs.length none = xs.length := rfl
  have e1 : HT.sIx xs.length 0 (some (-1)) = xs.length - 1 := by
    show (if (-1 : Int) < 0 then ((-1 : Int) + (xs.length : Int)).toNat else min (-1 : Int).toNat xs.length) = _
    rw [if_pos (by omega)]
    omega
  rw [e0, e1, List.take_of_length_le (by rw [List.length_drop]; omega)]
theorem cut_but : cutD xs none (some (-1)) = xs.dropLast := by
  unfold cutD
  have e0 : HT.sIx xs.length xs.length (some (-1)) = xs.length - 1 := by
    show (if (-1 : Int) < 0 then ((-1 : Int) + (xs.length : Int)).toNat else min (-1 : Int).toNat xs.length) = _
    rw [if_pos (by omega)]
    omega
  have e1 : HT.sIx xs.length 0 none = 0 := rfl
  rw [e0, e1, List.drop_zero, Nat.sub_zero, List.dropLast_eq_take]
end
section
variable {m : MH} {P : D → MH → Prop} {x y a b c e : Tx} {t : List D}
theorem ux_slS {lo hi : Option Int} : wp (up (slD (.str x) lo hi m)) P = (x.length ≤ 100000 ∧ P (.str (cutD x lo hi)) m) := up_ite
theorem ux_addS : wp (up (addD (.str x) (.str y) m)) P = (x.length + y.length ≤ 100000 ∧ P (.str (x ++ y)) m) := up_ite
theorem ux_iaddS : wp (up (iaddD (.str x) (.str y) m)) P = (x.length + y.length ≤ 100000 ∧ P (.str (x ++ y)) m) := up_ite
theorem eqF_str : eqF (.str x) (.str y) = decide (x = y) := by
  show (x == y) = _
  by_cases h : x = y
  · subst h
    simp
  · rw [decide_eq_false h]
    exact beq_eq_false_iff_ne.mpr h
theorem ux_inTS {ys : List Tx} : wp (up (inD (.str x) (.tup (ys.map D.str)) m)) P = P (.bl (decide (x ∈ ys))) m := by
  have fl : (flatD (.str x) && (ys.map D.str).all flatD) = true := by
    rw [List.all_map]
    show (true && ys.all _) = true
    rw [Bool.true_and, List.all_eq_true]
    exact fun _ _ => rfl
  have e : ((ys.map D.str).any fun z => eqF z (.str x)) = decide (x ∈ ys) := by
    rw [List.any_map]
    have : (fun z => eqF z (D.str x)) ∘ D.str = fun y => decide (y = x) := by
      funext y
      exact eqF_str
    rw [this]
    induction ys with
    | nil => rfl
    | cons y ys ih =>
      have fl2 : (flatD (.str x) && (ys.map D.str).all flatD) = true := by
        rw [List.all_map]
        show (true && ys.all _) = true
        rw [Bool.true_and, List.all_eq_true]
        exact fun _ _ => rfl
      rw [List.any_cons, ih fl2]
      by_cases h : y = x
      · subst h
        simp
      · simp [h, Ne.symm h]
  unfold inD
  simp only [fl, if_true, e]
  rfl
theorem ux_inT2 : wp (up (inD (.str x) (.tup [.str a, .str b]) m)) P = P (.bl (decide (x = a) || decide (x = b))) m := by
  rw [show [D.str a, .str b] = [a, b].map D.str from rfl, ux_inTS]
  congr 2
  simp [Bool.decide_or]
theorem ux_inT3 : wp (up (inD (.str x) (.tup [.str a, .str b, .str c]) m)) P = P (.bl (decide (x = a) || (decide (x = b) || decide (x = c)))) m := by
  rw [show [D.str a, .str b, .str c] = [a, b, c].map D.str from rfl, ux_inTS]
  congr 2
  simp [Bool.decide_or]
theorem get_new1 {o1 o2 : MO} {g : MH} : (m ++ o1 :: o2 :: g)[m.length + 1]? = some o2 := by simp
theorem get_new2 {o1 o2 o3 : MO} {g : MH} : (m ++ o1 :: o2 :: o3 :: g)[m.length + 2]? = some o3 := by simp
theorem get_new3 {o1 o2 o3 o4 : MO} {g : MH} : (m ++ o1 :: o2 :: o3 :: o4 :: g)[m.length + 3]? = some o4 := by simp
theorem set_new1 {o1 o2 o : MO} {g : MH} : (m ++ o1 :: o2 :: g).set (m.length + 1) o = m ++ o1 :: o :: g := by
  rw [List.set_append_right _ _ (by omega), Nat.add_sub_cancel_left]
  rfl
theorem set_new2 {o1 o2 o3 o : MO} {g : MH} : (m ++ o1 :: o2 :: o3 :: g).set (m.length + 2) o = m ++ o1 :: o2 :: o :: g := by
  rw [List.set_append_right _ _ (by omega), Nat.add_sub_cancel_left]
  rfl
/-- behind a call that hands back the last of what is new, a list of plain values -/
theorem gc_lastNew {g : MH} {o : MO} (h : o.refs = []) : gc m (.ref (m.length + g.length)) (m ++ g ++ [o]) = (.ref m.length, m ++ [o]) := by
  have e : (m ++ g ++ [o])[m.length + g.length]? = some o := by
    rw [← List.length_append]
    exact get_new
  rw [gc_one (a := m.length + g.length) (o := o) (by omega) (by simp) e (fun i hi => by rw [h] at hi; simp at hi) fun i hi => .inl (by rw [List.append_assoc]; exact List.getElem?_append_left hi)]
  simp
theorem gc_L1 {o1 o : MO} (h : o.refs = []) : gc m (.ref (m.length + 1)) (m ++ [o1, o]) = (.ref m.length, m ++ [o]) := by
  have := gc_lastNew (m := m) (g := [o1]) h
  rw [List.append_assoc] at this
  exact this
theorem gc_L2 {o1 o2 o : MO} (h : o.refs = []) : gc m (.ref (m.length + 2)) (m ++ [o1, o2, o]) = (.ref m.length, m ++ [o]) := by
  have := gc_lastNew (m := m) (g := [o1, o2]) h
  rw [List.append_assoc] at this
  exact this
theorem refs_strs {ys : List Tx} : MO.refs (.lst (ys.map D.str)) = [] := refsL_flat _ ux_mapStr
theorem len_map1 {m : MH} {o : MO} : (m ++ [o]).length = m.length + 1 := by simp
theorem app2 {m : MH} {o1 o2 : MO} : m ++ [o1] ++ [o2] = m ++ [o1, o2] := by simp
theorem app3 {m : MH} {o1 o2 o3 : MO} : m ++ [o1, o2] ++ [o3] = m ++ [o1, o2, o3] := by simp
/-- the last of a list, taken and set -/
theorem atI_last {α : Type} {xs : List α} {d : α} : atI (xs ++ [d]) (-1) = some d := by
  unfold atI ixN
  rw [if_neg (by omega), List.length_append, List.length_cons, List.length_nil, if_pos (by omega)]
  have : ((-1 : Int) + ((xs.length + (0 + 1) : Nat) : Int)).toNat = xs.length := by omega
  show (xs ++ [d])[((-1 : Int) + ((xs.length + (0 + 1) : Nat) : Int)).toNat]? = some d
  rw [this]
  simp
theorem ixN_last {n : Nat} : ixN (n + 1) (-1) = some n := by
  unfold ixN
  rw [if_neg (by omega), if_pos (by omega)]
  congr 1
  omega
theorem ux_getLast {p : Nat} {xs : List D} {d : D} (h : m[p]? = some (.lst (xs ++ [d]))) : wp (up (getD2 (.ref p) (.int (-1)) m)) P = P d m := by
  unfold getD2
  simp only [h, atI_last]
  rfl
theorem st_last {p : Nat} {xs : List D} {d v : D} (h : m[p]? = some (.lst (xs ++ [d]))) : stD (.ref p) (.int (-1)) v m = some (m.set p (.lst (xs ++ [v]))) := by
  unfold stD
  simp only [h, List.length_append, List.length_cons, List.length_nil, ixN_last]
  show some (m.set p (.lst ((xs ++ [d]).set xs.length v))) = _
  rw [List.set_append_right _ _ (Nat.le_refl _), Nat.sub_self]
  rfl
theorem ux_pop {p : Nat} {xs : List D} {d : D} (h : m[p]? = some (.lst (xs ++ [d]))) : wp (up (popM (.ref p) [] m)) P = P d (m.set p (.lst xs)) := by
  unfold popM
  simp only [h, List.length_append, List.length_cons, List.length_nil]
  show wp (up (((xs ++ [d])[xs.length]?).map fun y => (y, m.set p (.lst (xs ++ [d]).dropLast)))) P = _
  rw [List.getElem?_append_right (Nat.le_refl _), Nat.sub_self, List.dropLast_concat]
  rfl
theorem ux_ixSn {i : Nat} (h : i < x.length) (hl : x.length ≤ 100000) : wp (up (ixD (.str x) (.int (i : Int)) m)) P = P (.str [x.getD i 0]) m := by
  rw [ux_ixS (by omega) (by omega) hl]
  rfl
/-- the last sign of a text -/
theorem ux_ixSlast {c : Nat} (hl : (x ++ [c]).length ≤ 100000) : wp (up (ixD (.str (x ++ [c])) (.int (-1)) m)) P = P (.str [c]) m := by
  show wp (up (if (x ++ [c]).length ≤ 100000 then (atI (x ++ [c]) (-1)).map fun c => (D.str [c], m) else none)) P = _
  rw [if_pos hl, atI_last]
  rfl
end
theorem map_get {α β : Type} {f : α → β} {ys : List α} {i : Nat} {d : β} (h : (ys.map f)[i]? = some d) : ∃ t, ys[i]? = some t ∧ d = f t ∧ t ∈ ys ∧ ys.take (i + 1) = ys.take i ++ [t] := by
  rw [List.getElem?_map] at h
  cases e : ys[i]? with
  | none =>
    rw [e] at h
    cases h
  | some t =>
    rw [e] at h
    cases h
    exact ⟨t, rfl, rfl, List.mem_of_getElem? e, by rw [List.take_add_one, e]; rfl⟩
theorem str_ne {x y : Tx} : (!decide (x = y)) = decide (x ≠ y) := by
  by_cases h : x = y <;> simp [h]
end Mn
end

section
/-! Mini, part W: rules that look into the heap by themselves. -/
namespace Mn
open PySem PySem.Spec PyProof.Rows L2
theorem findK_cons {j' j : DK} {d : D} {kvs : List (DK × D)} : findK ((j', d) :: kvs) j = if j' = j then some d else findK kvs j := by
  unfold findK
  rw [List.find?_cons]
  by_cases h : j' = j
  · simp [h]
  · simp [h]
theorem findK_nil {j : DK} : findK [] j = none := rfl
theorem putKD_cons {j' j : DK} {d v : D} {kvs : List (DK × D)} : putKD ((j', d) :: kvs) j v = if j' = j then (j', v) :: kvs.map (fun kv => if kv.1 = j then (kv.1, v) else kv) else (j', d) :: putKD kvs j v := by
  unfold putKD
  rw [List.any_cons]
  by_cases h : j' = j
  · subst h
    simp
  · rw [if_neg h, decide_eq_false h, Bool.false_or]
    by_cases h2 : (kvs.any fun kv => decide (kv.1 = j)) = true
    · rw [if_pos h2, if_pos h2, List.map_cons, if_neg h]
    · rw [if_neg h2, if_neg h2, List.cons_append]
theorem putKD_nil {j : DK} {v : D} : putKD [] j v = [(j, v)] := rfl
/-- a store, and what is wanted behind it -/
def stP (o i v : D) (m : MH) (Q : MH → Prop) : Prop := match stD o i v m with
  | some m' => Q m'
  | none => False
section
variable {m : MH} {f : Fr} {P : D → MH → Prop} {R : Fl → Fr → MH → Prop} {Q : MH → Prop} {a b : Nat} {i j : Int} {x y : Tx} {v d : D} {xs ys : List D}
theorem ws_storeP {go gi ge : Fr → MH → Out D} : ws (sStore go gi ge f m) R = wp (ge f m) fun v m1 => wp (go f m1) fun o m2 => wp (gi f m2) fun i m3 => stP o i v m3 fun m4 => R .nx f m4 := ws_store
theorem ws_aug2P {F : D → D → MH → Opt D} {go gi ge : Fr → MH → Out D} : ws (sAug2 F go gi ge f m) R = wp (go f m) fun o m1 => wp (gi f m1) fun i m2 => wp (up (getD2 o i m2)) fun x m3 => wp (ge f m3) fun y m4 => wp (up (F x y m4)) fun z m5 => stP o i z m5 fun m6 => R .nx f m6 := ws_aug2
theorem gx_it {P : Src → MH → Prop} : wp (itD (.ref a) m) P = match m[a]? with
    | some (.lst _) => P (lstS a) m
    | _ => False := by
  unfold itD
  cases e : m[a]? with
  | none => simp only [e]; rfl
  | some o =>
    cases o with
    | lst xs => simp only [e]; rfl
    | dct xs => simp only [e]; rfl
    | ins _ _ => simp only [e]; rfl
theorem gx_isLs : isLs (.ref a) m = match m[a]? with
    | some (.lst _) => true
    | _ => false := rfl
theorem gx_isTx : isTx (.str x) m = true := rfl
theorem gx_len : wp (up (lenF [.ref a] m)) P = match m[a]? with
    | some (.lst xs) => P (.int xs.length) m
    | some (.dct xs) => P (.int xs.length) m
    | _ => False := by
  unfold lenF
  cases e : m[a]? with
  | none => simp only [e]; rfl
  | some o =>
    cases o with
    | lst xs => simp only [e]; rfl
    | dct xs => simp only [e]; rfl
    | ins _ _ => simp only [e]; rfl
theorem gx_ixI : wp (up (ixD (.ref a) (.int i) m)) P = match m[a]? with
    | some (.lst xs) => (match atI xs i with
      | some d => P d m
      | none => False)
    | some (.dct kvs) => (match findK kvs (.inl i) with
      | some d => P d m
      | none => False)
    | _ => False := by
  unfold ixD
  cases e : m[a]? with
  | none => simp only [e]; rfl
  | some o =>
    cases o with
    | lst xs => simp only [e]; cases atI xs i <;> rfl
    | dct xs => simp only [e, keyOf, Option.bind_some]; cases findK xs (.inl i) <;> rfl
    | ins _ _ => simp only [e]; rfl
theorem gx_ixS : wp (up (ixD (.ref a) (.str x) m)) P = match m[a]? with
    | some (.dct kvs) => (match findK kvs (.inr x) with
      | some d => P d m
      | none => False)
    | _ => False := by
  unfold ixD
  cases e : m[a]? with
  | none => simp only [e]; rfl
  | some o =>
    cases o with
    | lst xs => simp only [e]; rfl
    | dct xs => simp only [e, keyOf, Option.bind_some]; cases findK xs (.inr x) <;> rfl
    | ins _ _ => simp only [e]; rfl
theorem gx_ixT : wp (up (ixD (.tup xs) (.int i) m)) P = match atI xs i with
    | some d => P d m
    | none => False := by
  show wp (up ((atI xs i).map fun d => (d, m))) P = _
  cases atI xs i <;> rfl
theorem gx_getI : wp (up (getD2 (.ref a) (.int i) m)) P = match m[a]? with
    | some (.lst xs) => (match atI xs i with
      | some d => P d m
      | none => False)
    | some (.dct kvs) => (match findK kvs (.inl i) with
      | some d => P d m
      | none => False)
    | _ => False := by
  unfold getD2
  cases e : m[a]? with
  | none => simp only [e]; rfl
  | some o =>
    cases o with
    | lst xs => simp only [e]; cases atI xs i <;> rfl
    | dct xs => simp only [e, keyOf, Option.bind_some]; cases findK xs (.inl i) <;> rfl
    | ins _ _ => simp only [e]; rfl
theorem gx_getS : wp (up (getD2 (.ref a) (.str x) m)) P = match m[a]? with
    | some (.dct kvs) => (match findK kvs (.inr x) with
      | some d => P d m
      | none => False)
    | _ => False := by
  unfold getD2
  cases e : m[a]? with
  | none => simp only [e]; rfl
  | some o =>
    cases o with
    | lst xs => simp only [e]; rfl
    | dct xs => simp only [e, keyOf, Option.bind_some]; cases findK xs (.inr x) <;> rfl
    | ins _ _ => simp only [e]; rfl
theorem gx_stI : stP (.ref a) (.int i) v m Q = match m[a]? with
    | some (.lst xs) => (match ixN xs.length i with
      | some p => Q (m.set a (.lst (xs.set p v)))
      | none => False)
    | some (.dct kvs) => kvs.length < 100000 ∧ Q (m.set a (.dct (putKD kvs (.inl i) v)))
    | _ => False := by
  unfold stP stD
  cases e : m[a]? with
  | none => simp only [e]
  | some o =>
    cases o with
    | lst xs =>
      simp only [e]
      cases ixN xs.length i <;> rfl
    | dct xs =>
      simp only [e, keyOf]
      by_cases h : xs.length < 100000 <;> simp [h]
    | ins _ _ => simp only [e]
theorem gx_stS : stP (.ref a) (.str x) v m Q = match m[a]? with
    | some (.dct kvs) => kvs.length < 100000 ∧ Q (m.set a (.dct (putKD kvs (.inr x) v)))
    | _ => False := by
  unfold stP stD
  cases e : m[a]? with
  | none => simp only [e]
  | some o =>
    cases o with
    | lst xs => simp only [e]
    | dct xs =>
      simp only [e, keyOf]
      by_cases h : xs.length < 100000 <;> simp [h]
    | ins _ _ => simp only [e]
theorem gx_app : wp (up (appM (.ref a) [v] m)) P = match m[a]? with
    | some (.lst xs) => xs.length < 100000 ∧ P .non (m.set a (.lst (xs ++ [v])))
    | _ => False := by
  unfold appM
  cases e : m[a]? with
  | none => simp only [e]; rfl
  | some o =>
    cases o with
    | lst xs => simp only [e]; exact up_ite
    | dct xs => simp only [e]; rfl
    | ins _ _ => simp only [e]; rfl
theorem gx_pop : wp (up (popM (.ref a) [] m)) P = match m[a]? with
    | some (.lst xs) => (match xs.getLast? with
      | some y => P y (m.set a (.lst xs.dropLast))
      | none => False)
    | _ => False := by
  unfold popM
  cases e : m[a]? with
  | none => simp only [e]; rfl
  | some o =>
    cases o with
    | lst xs => simp only [e]; rw [List.getLast?_eq_getElem?]; cases xs[xs.length - 1]? <;> rfl
    | dct xs => simp only [e]; rfl
    | ins _ _ => simp only [e]; rfl
theorem gx_rev : wp (up (revM (.ref a) [] m)) P = match m[a]? with
    | some (.lst xs) => P .non (m.set a (.lst xs.reverse))
    | _ => False := by
  unfold revM
  cases e : m[a]? with
  | none => simp only [e]; rfl
  | some o =>
    cases o with
    | lst xs => simp only [e]; rfl
    | dct xs => simp only [e]; rfl
    | ins _ _ => simp only [e]; rfl
theorem gx_cat : wp (up (addD (.ref a) (.ref b) m)) P = match m[a]? with
    | some (.lst xs) => (match m[b]? with
      | some (.lst ys) => xs.length + ys.length ≤ 100000 ∧ P (.ref m.length) (m ++ [.lst (xs ++ ys)])
      | _ => False)
    | _ => False := by
  unfold addD
  cases e : m[a]? with
  | none => simp only [e]; rfl
  | some o =>
    cases o with
    | lst xs =>
      cases e2 : m[b]? with
      | none => simp only [e, e2]; rfl
      | some o2 =>
        cases o2 with
        | lst ys => simp only [e, e2]; exact up_ite
        | dct _ => simp only [e, e2]; rfl
        | ins _ _ => simp only [e, e2]; rfl
    | dct _ => simp only [e]; rfl
    | ins _ _ => simp only [e]; rfl
theorem gx_catT : wp (up (addD (.tup xs) (.tup ys) m)) P = (xs.length + ys.length ≤ 100000 ∧ P (.tup (xs ++ ys)) m) := up_ite
theorem gx_sl {lo hi : Option Int} : wp (up (slD (.ref a) lo hi m)) P = match m[a]? with
    | some (.lst xs) => P (.ref m.length) (m ++ [.lst (cutD xs lo hi)])
    | _ => False := by
  unfold slD
  cases e : m[a]? with
  | none => simp only [e]; rfl
  | some o =>
    cases o with
    | lst xs => simp only [e]; rfl
    | dct xs => simp only [e]; rfl
    | ins _ _ => simp only [e]; rfl
theorem gx_slT {lo hi : Option Int} : wp (up (slD (.tup xs) lo hi m)) P = P (.tup (cutD xs lo hi)) m := rfl
theorem gx_slF {lo hi : Option Int} : wp (up (slD (.frl xs) lo hi m)) P = P (.ref m.length) (m ++ [.lst (cutD xs lo hi)]) := rfl
theorem gx_join : wp (up (joinM (.str x) [.ref a] m)) P = match m[a]? with
    | some (.lst xs) => (match txsOf xs with
      | some ys => (ys.map (·.length)).sum + ys.length * x.length ≤ 100000 ∧ P (.str (joinTx x ys)) m
      | none => False)
    | _ => False := by
  unfold joinM itemsOf
  cases e : m[a]? with
  | none => simp only [e]; rfl
  | some o =>
    cases o with
    | lst xs => simp only [e, Option.bind_some]; cases txsOf xs <;> first | rfl | exact up_ite
    | dct xs => simp only [e]; rfl
    | ins _ _ => simp only [e]; rfl
theorem gx_joinT : wp (up (joinM (.str x) [.tup xs] m)) P = match txsOf xs with
    | some ys => (ys.map (·.length)).sum + ys.length * x.length ≤ 100000 ∧ P (.str (joinTx x ys)) m
    | none => False := by
  unfold joinM itemsOf
  simp only [Option.bind_some]
  cases txsOf xs with
  | none => rfl
  | some ys => exact up_ite
theorem gx_tup : wp (up (tupF [.ref a] m)) P = match m[a]? with
    | some (.lst xs) => P (.tup xs) m
    | _ => False := by
  unfold tupF
  cases e : m[a]? with
  | none => simp only [e]; rfl
  | some o =>
    cases o with
    | lst xs => simp only [e]; rfl
    | dct xs => simp only [e]; rfl
    | ins _ _ => simp only [e]; rfl
theorem gx_tupT : wp (up (tupF [.tup xs] m)) P = P (.tup xs) m := rfl
theorem gx_tupF : wp (up (tupF [.frl xs] m)) P = P (.tup xs) m := rfl
theorem gx_lst : wp (up (lstF [.ref a] m)) P = match m[a]? with
    | some (.lst xs) => P (.ref m.length) (m ++ [.lst xs])
    | some (.dct kvs) => P (.ref m.length) (m ++ [.lst (kvs.map fun kv => keyD kv.1)])
    | _ => False := by
  unfold lstF
  cases e : m[a]? with
  | none => simp only [e]; rfl
  | some o =>
    cases o with
    | lst xs => simp only [e]; rfl
    | dct xs => simp only [e]; rfl
    | ins _ _ => simp only [e]; rfl
theorem gx_lstT : wp (up (lstF [.tup xs] m)) P = P (.ref m.length) (m ++ [.lst xs]) := rfl
theorem gx_lstF : wp (up (lstF [.frl xs] m)) P = P (.ref m.length) (m ++ [.lst xs]) := rfl
theorem gx_all : wp (up (allF [.ref a] m)) P = match m[a]? with
    | some (.lst xs) => (match blsOf xs with
      | some bs => P (.bl (bs.all id)) m
      | none => False)
    | _ => False := by
  unfold allF
  cases e : m[a]? with
  | none => simp only [e]; rfl
  | some o =>
    cases o with
    | lst xs => simp only [e]; cases blsOf xs <;> rfl
    | dct xs => simp only [e]; rfl
    | ins _ _ => simp only [e]; rfl
theorem gx_inK : wp (up (inD (.str x) (.ref a) m)) P = match m[a]? with
    | some (.dct kvs) => P (.bl (findK kvs (.inr x)).isSome) m
    | some (.lst xs) => wp (up (inD (.str x) (.frl xs) m)) P ∨ (¬ xs.all flatD = true ∧ wp (up (inD (.str x) (.ref a) m)) P)
    | _ => False := by
  cases h : m[a]? with
  | none =>
    unfold inD
    simp only [h]
    rfl
  | some o =>
    cases o with
    | dct _ =>
      unfold inD
      simp only [h]
      rfl
    | ins _ _ =>
      unfold inD
      simp only [h]
      rfl
    | lst xs =>
      dsimp only
      unfold inD
      simp only [h]
      by_cases hf : xs.all flatD = true
      · simp only [hf, Bool.and_true, show flatD (.str x) = true from rfl, if_true, not_true, false_and, or_false]
      · rw [Bool.not_eq_true] at hf
        simp only [hf, Bool.and_false, Bool.false_eq_true, if_false]
        simp only [not_false_eq_true, true_and]
        exact propext ⟨fun z => .inr z, fun z => z.elim (fun q => q.elim) id⟩
theorem gx_notInK : wp (up (notInD (.str x) (.ref a) m)) P = match m[a]? with
    | some (.dct kvs) => P (.bl (!(findK kvs (.inr x)).isSome)) m
    | some (.lst _) => wp (up (notInD (.str x) (.ref a) m)) P
    | _ => False := by
  cases h : m[a]? with
  | none =>
    unfold notInD inD
    simp only [h]
    rfl
  | some o =>
    cases o with
    | dct _ =>
      unfold notInD inD
      simp only [h]
      rfl
    | ins _ _ =>
      unfold notInD inD
      simp only [h]
      rfl
    | lst xs => rfl
/-! what stands where -/
theorem get_old {g : MH} (h : a < m.length) : (m ++ g)[a]? = m[a]? := List.getElem?_append_left h
theorem set_old {g : MH} {o : MO} (h : a < m.length) : (m ++ g).set a o = m.set a o ++ g := List.set_append_left _ _ h
theorem get_same {o : MO} (h : a < m.length) : (m.set a o)[a]? = some o := List.getElem?_set_self h
theorem get_other {o : MO} (h : b ≠ a) : (m.set a o)[b]? = m[b]? := List.getElem?_set_ne (Ne.symm h)
theorem set_lastM {α β : Type} {f : α → β} {xs : List α} {d v : β} : (xs.map f ++ [d]).set xs.length v = xs.map f ++ [v] := by
  have := List.length_map f (as := xs)
  rw [← this, List.set_append_right _ _ (Nat.le_refl _), Nat.sub_self]
  rfl
theorem set_lastL {α : Type} {xs : List α} {d v : α} : (xs ++ [d]).set xs.length v = xs ++ [v] := by
  rw [List.set_append_right _ _ (Nat.le_refl _), Nat.sub_self]
  rfl
/-! behind a call that hands back a flat value -/
theorem gcn_str {g : MH} : gc m (.str x) (m ++ g) = (.str x, m) := gc_drop no_refs_str
theorem gcn_int {g : MH} : gc m (.int i) (m ++ g) = (.int i, m) := gc_drop no_refs_int
theorem gcn_bl {g : MH} {c : Bool} : gc m (.bl c) (m ++ g) = (.bl c, m) := gc_drop no_refs_bl
theorem gcn_non {g : MH} : gc m .non (m ++ g) = (.non, m) := gc_drop no_refs_non
theorem gcs_str : gc m (.str x) m = (.str x, m) := gc_same no_refs_str
theorem gcs_int : gc m (.int i) m = (.int i, m) := gc_same no_refs_int
theorem gcs_bl {c : Bool} : gc m (.bl c) m = (.bl c, m) := gc_same no_refs_bl
theorem gcs_non : gc m .non m = (.non, m) := gc_same no_refs_non
theorem gcn_tup {g : MH} (h : refsL xs = []) : gc m (.tup xs) (m ++ g) = (.tup xs, m) := gc_drop fun i hi => by
  have hi : i ∈ refsL xs := hi
  rw [h] at hi
  simp at hi
theorem gcs_tup (h : refsL xs = []) : gc m (.tup xs) m = (.tup xs, m) := gc_same fun i hi => by
  have hi : i ∈ refsL xs := hi
  rw [h] at hi
  simp at hi
theorem gcn_lst {g : MH} (h : refsL xs = []) : gc m (.ref m.length) (m ++ .lst xs :: g) = (.ref m.length, m ++ [.lst xs]) := gc_list (show MO.refs (.lst xs) = [] from h)
theorem gcn_lst1 {o : MO} (h : refsL xs = []) : gc m (.ref (m.length + 1)) (m ++ [o, .lst xs]) = (.ref m.length, m ++ [.lst xs]) := gc_L1 (show MO.refs (.lst xs) = [] from h)
theorem gcn_lst2 {o o2 : MO} (h : refsL xs = []) : gc m (.ref (m.length + 2)) (m ++ [o, o2, .lst xs]) = (.ref m.length, m ++ [.lst xs]) := gc_L2 (show MO.refs (.lst xs) = [] from h)
theorem refsL_strs {ys : List Tx} : refsL (ys.map D.str) = [] := refsL_flat _ ux_mapStr
theorem refsL_nil : refsL [] = [] := rfl
theorem refsL_s : refsL (.str x :: xs) = refsL xs := rfl
theorem refsL_i : refsL (.int i :: xs) = refsL xs := rfl
theorem refsL_n : refsL (.non :: xs) = refsL xs := rfl
theorem refsL_b {c : Bool} : refsL (.bl c :: xs) = refsL xs := rfl
theorem refsL_t : refsL (.tup ys :: xs) = refsL ys ++ refsL xs := rfl
theorem refsL_app : ∀ {xs ys : List D}, refsL (xs ++ ys) = refsL xs ++ refsL ys
  | [], _ => rfl
  | x :: xs, ys => by
    show x.refs ++ refsL (xs ++ ys) = (x.refs ++ refsL xs) ++ refsL ys
    rw [refsL_app, List.append_assoc]
end
/-- lc_pure, over a heap written otherwise -/
theorem lc_pureE (m : MH) {M : MH} {n : Nat} {T : Tg} {tt : Fr → MH → Out Bool} {te : Fr → MH → Out D} {fw : Fr} {Q : D → MH → Prop} {src : Src} {xs : List D} (F : D → Bool) (G : D → D) (hM : M = m ++ [.lst []]) (hm : n = m.length) (hn : xs.length ≤ 100000) (hs : ∀ i acc, src i (m ++ [.lst acc]) = some xs[i]?)
    (h : ∀ d ∈ xs, ∀ acc, ∃ f1, T.set d fw = some f1 ∧ wp (tt f1 (m ++ [.lst acc])) fun c m2 => c = F d ∧ m2 = m ++ [.lst acc] ∧ (c = true → wp (te f1 (m ++ [.lst acc])) fun y m3 => y = G d ∧ m3 = m ++ [.lst acc]))
    (q : Q (.ref n) (m ++ [.lst ((xs.filter F).map G)])) : wp (loopC src T tt te fw n wfuel 0 M) Q := by
  subst hM
  subst hm
  exact lc_pure F G hn hs h q
theorem mem_len_sum {w : Tx} : ∀ {l : List Tx}, w ∈ l → w.length ≤ (l.map (·.length)).sum
  | x :: l, h => by
    rw [List.map_cons, List.sum_cons]
    rcases List.mem_cons.mp h with h | h
    · rw [h]
      omega
    · have := mem_len_sum h
      omega
theorem toPys_ints {m : MH} : ∀ (n : Nat) (xs : List Int), xs.length ≤ n → toPys m n (xs.map D.int) = some (xs.map PyData.int)
  | n, [], _ => toPys_nil
  | n + 1, x :: xs, h => by
    show (match toPy m n (.int x), toPys m n (xs.map D.int) with | some p, some ps => some (p :: ps) | _, _ => none) = _
    rw [toPy_int, toPys_ints n xs (by simp at h; omega)]
    rfl
theorem canLay_ints : ∀ xs : List Int, PyData.canLayAll0 (xs.map PyData.int) = true
  | [] => rfl
  | x :: xs => by
    show (PyData.canLay0 (.int x) && PyData.canLayAll0 (xs.map PyData.int)) = true
    rw [canLay_ints xs]
    rfl
theorem depth_ints : ∀ xs : List Int, PyData.depthAll (xs.map PyData.int) = 0
  | [] => rfl
  | x :: xs => by
    show Nat.max (PyData.depth (.int x)) (PyData.depthAll (xs.map PyData.int)) = 0
    rw [depth_ints xs]
    rfl
/-- a list of any numbers, compared with the one without items -/
theorem ux_neNil {m : MH} {P : D → MH → Prop} {a b : Nat} {xs : List Int} (h : m[a]? = some (.lst (xs.map D.int))) (h2 : m[b]? = some (.lst [])) (hl : xs.length ≤ 900000) : wp (up (neD (.ref a) (.ref b) m)) P = P (.bl (!xs.isEmpty)) m := by
  have e1 : toPy m pyF (.ref a) = some (.list (xs.map PyData.int)) := by
    rw [pyF_eq]
    show (match m[a]? with | some (.lst xs) => (toPys m 999999 xs).map PyData.list | _ => none) = _
    rw [h]
    show (toPys m 999999 (xs.map D.int)).map _ = _
    rw [toPys_ints _ _ (by omega)]
    rfl
  have e2 : toPy m pyF (.ref b) = some (.list []) := by
    rw [pyF_eq]
    show (match m[b]? with | some (.lst xs) => (toPys m 999999 xs).map PyData.list | _ => none) = _
    rw [h2]
    rfl
  have s1 : SeqAt.shaped (.list (xs.map PyData.int)) = true := by
    unfold SeqAt.shaped
    have c : PyData.canLay0 (.list (xs.map PyData.int)) = true := canLay_ints xs
    have d : PyData.depth (.list (xs.map PyData.int)) ≤ 64 := by
      show PyData.depthAll _ + 1 ≤ 64
      rw [depth_ints]
      omega
    rw [c, decide_eq_true d]
    rfl
  have s2 : SeqAt.shaped (.list []) = true := rfl
  unfold neD eqD
  simp only [e1, e2, s1, s2, Bool.and_self, if_true]
  cases xs <;> rfl
/-- short lists of short texts -/
structure StrsOk (ws : List Tx) : Prop where
  len : ws.length ≤ 100
  each : ∀ w ∈ ws, w.length ≤ 200 ∧ ∀ c ∈ w, c < 0x110000
theorem StrsOk.sh {m : MH} {k : Nat} {ws : List Tx} (h : StrsOk ws) : Shs m k 30000 (ws.map D.str) (ws.map pyS) :=
  (shs_strs (k := k) (n := 200) ws h.each).le (Nat.le_refl _) (by
    have : (200 + 1) * ws.length ≤ 201 * 100 := Nat.mul_le_mul (Nat.le_refl _) h.len
    omega)
/-- a list of short texts, shown -/
theorem StrsOk.shL {m : MH} {a : Nat} {ws : List Tx} (h : StrsOk ws) (e : m[a]? = some (.lst (ws.map D.str))) : Sh m 1 30000 (.ref a) (.list (ws.map pyS)) := Sh.lst (k := 0) e h.sh
theorem StrsOk.nil : StrsOk [] := ⟨by simp, fun w h => nomatch h⟩
def strsB (ws : List Tx) : Bool := decide (ws.length ≤ 100) && ws.all fun w => decide (w.length ≤ 200) && w.all fun c => decide (c < 0x110000)
theorem StrsOk.of {ws : List Tx} (h : strsB ws = true) : StrsOk ws := by
  unfold strsB at h
  rw [Bool.and_eq_true, decide_eq_true_eq, List.all_eq_true] at h
  refine ⟨h.1, fun w hw => ?_⟩
  have := h.2 w hw
  rw [Bool.and_eq_true, decide_eq_true_eq, List.all_eq_true] at this
  exact ⟨this.1, fun c hc => of_decide_eq_true (this.2 c hc)⟩
theorem eqvAll_strs : ∀ xs ys : List Tx, PyData.eqvAll (xs.map pyS) (ys.map pyS) = decide (xs = ys)
  | [], [] => rfl
  | [], _ :: _ => rfl
  | _ :: _, [] => rfl
  | x :: xs, y :: ys => by
    show ((tx x == tx y) && PyData.eqvAll (xs.map pyS) (ys.map pyS)) = _
    rw [tx_deq, eqvAll_strs xs ys]
    by_cases h : x = y
    · subst h
      simp
    · simp [h]
theorem ux_eqSL {m : MH} {P : D → MH → Prop} {a b : Nat} {us vs : List D} {xs ys : List Tx} (h : m[a]? = some (.lst us)) (h2 : m[b]? = some (.lst vs)) (e : us = xs.map D.str) (e2 : vs = ys.map D.str) (o : StrsOk xs) (o2 : StrsOk ys) : wp (up (eqD (.ref a) (.ref b) m)) P = P (.bl (decide (xs = ys))) m := by
  subst e
  subst e2
  rw [ux_eqP (o.shL h) (o2.shL h2) (by omega) (by omega) (by omega) (by omega)]
  have : PyData.eqv (.list (xs.map pyS)) (.list (ys.map pyS)) = decide (xs = ys) := eqvAll_strs xs ys
  rw [this]
section
variable {m : MH} {f : Fr} {P : D → MH → Prop} {R : Fl → Fr → MH → Prop} {a : Nat} {xs : List D} {x : Tx}
theorem gx_rvL : wp (up (revD (.ref a) m)) P = match m[a]? with
    | some (.lst xs) => P (.ref m.length) (m ++ [.lst xs.reverse])
    | _ => False := by
  unfold revD
  cases e : m[a]? with
  | none => simp only [e]; rfl
  | some o => cases o <;> simp only [e] <;> rfl
theorem gx_rvF : wp (up (revD (.frl xs) m)) P = P (.ref m.length) (m ++ [.lst xs.reverse]) := rfl
theorem gx_rvT : wp (up (revD (.tup xs) m)) P = P (.tup xs.reverse) m := rfl
theorem gx_rvS : wp (up (revD (.str x) m)) P = (x.length ≤ 100000 ∧ P (.str x.reverse) m) := up_ite
theorem gx_repl {y z : Tx} : wp (up (replD y z (.str x) m)) P = ((x.length ≤ 100000 ∧ z.length ≤ 100) ∧ P (.str (replT y z x)) m) := up_ite
theorem ws_no : ws (sNo f m) R = False := rfl
theorem ux_neB {a b : Bool} : wp (up (neD (.bl a) (.bl b) m)) P = P (.bl (!decide (a = b))) m := by
  cases a <;> cases b <;> rfl
theorem ux_eqB {a b : Bool} : wp (up (eqD (.bl a) (.bl b) m)) P = P (.bl (decide (a = b))) m := by
  cases a <;> cases b <;> rfl
end
end Mn
end

section
/-! Mini, part X: loops by their lists; numbers written. -/
namespace Mn
open PySem PySem.Spec PyProof.Rows L2
/-- a for's run over what is left of its items -/
def ItF (T : Tg) (b : GS) (R : Fl → Fr → MH → Prop) : List D → Fr → MH → Prop
  | [], f, m => R .nx f m
  | d :: ds, f, m => match T.set d f with
    | some f1 => ws (b f1 m) fun l f2 m2 => match l with
      | .nx => ItF T b R ds f2 m2
      | .ct => ItF T b R ds f2 m2
      | .bk => R .nx f2 m2
      | .ret d => R (.ret d) f2 m2
    | none => False
theorem ws_fixR {T : Tg} {b : GS} {f : Fr} {m : MH} {R : Fl → Fr → MH → Prop} {xs : List D} (hn : xs.length < 1000000) (h : ItF T b R xs f m) : ws (loopN (fixS xs) T b wfuel 0 f m) R := by
  refine ws_fix hn (fun i f m => ItF T b R (xs.drop i) f m) h (fun i d f m hd hI => ?_) fun f m hI => ?_
  · have hlt := (List.getElem?_eq_some_iff.mp hd).1
    have hI : ItF T b R (xs.drop i) f m := hI
    rw [List.drop_eq_getElem_cons hlt] at hI
    have e : xs[i] = d := by
      rw [List.getElem?_eq_getElem hlt] at hd
      exact Option.some.inj hd
    rw [e] at hI
    unfold ItF at hI
    cases ht : T.set d f with
    | none =>
      rw [ht] at hI
      exact hI.elim
    | some f1 =>
      rw [ht] at hI
      exact ⟨f1, rfl, hI⟩
  · have hI : ItF T b R (xs.drop xs.length) f m := hI
    rw [List.drop_length] at hI
    exact hI
theorem ItF_nil {T : Tg} {b : GS} {R : Fl → Fr → MH → Prop} {f : Fr} {m : MH} : ItF T b R [] f m = R .nx f m := rfl
theorem ItF_cons {T : Tg} {b : GS} {R : Fl → Fr → MH → Prop} {d : D} {ds : List D} {f : Fr} {m : MH} : ItF T b R (d :: ds) f m = match T.set d f with
    | some f1 => ws (b f1 m) fun l f2 m2 => match l with
      | .nx => ItF T b R ds f2 m2
      | .ct => ItF T b R ds f2 m2
      | .bk => R .nx f2 m2
      | .ret d => R (.ret d) f2 m2
    | none => False := rfl
/-- the same over a list that stands -/
def ItL (a : Nat) (xs : List D) (T : Tg) (b : GS) (R : Fl → Fr → MH → Prop) : List D → Fr → MH → Prop
  | [], f, m => m[a]? = some (.lst xs) ∧ R .nx f m
  | d :: ds, f, m => m[a]? = some (.lst xs) ∧ match T.set d f with
    | some f1 => ws (b f1 m) fun l f2 m2 => match l with
      | .nx => ItL a xs T b R ds f2 m2
      | .ct => ItL a xs T b R ds f2 m2
      | .bk => R .nx f2 m2
      | .ret d => R (.ret d) f2 m2
    | none => False
theorem ItL_at {a : Nat} {xs : List D} {T : Tg} {b : GS} {R : Fl → Fr → MH → Prop} {ds : List D} {f : Fr} {m : MH} (h : ItL a xs T b R ds f m) : m[a]? = some (.lst xs) := by
  cases ds with
  | nil => exact h.1
  | cons _ _ => exact h.1
theorem ws_lstR {T : Tg} {b : GS} {f : Fr} {m : MH} {R : Fl → Fr → MH → Prop} {a : Nat} {xs : List D} (hn : xs.length < 1000000) (h : ItL a xs T b R xs f m) : ws (loopN (lstS a) T b wfuel 0 f m) R := by
  refine ws_lst (xs := xs) hn (fun i f m => ItL a xs T b R (xs.drop i) f m) h (fun i f m hI => ItL_at hI) (fun i d f m hd hI => ?_) fun f m hI => ?_
  · have hlt := (List.getElem?_eq_some_iff.mp hd).1
    have hI : ItL a xs T b R (xs.drop i) f m := hI
    rw [List.drop_eq_getElem_cons hlt] at hI
    have e : xs[i] = d := by
      rw [List.getElem?_eq_getElem hlt] at hd
      exact Option.some.inj hd
    rw [e] at hI
    unfold ItL at hI
    cases ht : T.set d f with
    | none =>
      rw [ht] at hI
      exact hI.2.elim
    | some f1 =>
      rw [ht] at hI
      exact ⟨f1, rfl, hI.2⟩
  · have hI : ItL a xs T b R (xs.drop xs.length) f m := hI
    rw [List.drop_length] at hI
    exact hI.2
/-! ### numbers written -/
/-- a number's figures -/
def figs (n : Nat) : Tx := (Nat.toDigits 10 n).map Char.toNat
theorem strInt_nat (n : Nat) : strInt (n : Int) = figs n := PySem.W.KIN.signs_num n
theorem strInt_neg (n : Nat) : strInt (-((n : Int) + 1)) = 45 :: figs (n + 1) := by
  have e : -((n : Int) + 1) = Int.negSucc n := rfl
  rw [e]
  unfold strInt figs
  rw [PyProof.Rows.signs_ofString]
  show (("-" ++ Nat.repr (n + 1) : String).toList).map Char.toNat = _
  rw [String.toList_append, List.map_append, Nat.toList_repr]
  rfl
theorem figs_small {n : Nat} (h : n < 10) : figs n = [n + 48] := by
  unfold figs
  rw [Nat.toDigits_of_lt_base h]
  show [(Nat.digitChar n).toNat] = _
  have : ∀ d : Nat, d < 10 → (Nat.digitChar d).toNat = d + 48 := by decide
  rw [this n h]
theorem figs_len {n k : Nat} (hk : 0 < k) : (figs n).length ≤ k ↔ n < 10 ^ k := by
  unfold figs
  rw [List.length_map]
  exact Nat.length_toDigits_le_iff (by decide) hk
theorem figs_pos (n : Nat) : 0 < (figs n).length := by
  unfold figs
  rw [List.length_map]
  exact Nat.length_toDigits_pos
theorem figs_mem {n c : Nat} (h : c ∈ figs n) : 48 ≤ c ∧ c ≤ 57 := by
  unfold figs at h
  obtain ⟨ch, hch, rfl⟩ := List.mem_map.mp h
  have := Nat.isDigit_of_mem_toDigits (b := 10) (by decide) (by decide) hch
  unfold Char.isDigit at this
  rw [Bool.and_eq_true, decide_eq_true_eq, decide_eq_true_eq] at this
  exact this
theorem figs_ten {n : Nat} (h : 10 ≤ n) : figs n = figs (n / 10) ++ [n % 10 + 48] := by
  have t : Nat.toDigits 10 (n / 10) ++ Nat.toDigits 10 (n % 10) = Nat.toDigits 10 (10 * (n / 10) + n % 10) := Nat.toDigits_append_toDigits (by decide) (by omega) (Nat.mod_lt n (by decide))
  rw [Nat.div_add_mod] at t
  rw [← figs_small (n := n % 10) (Nat.mod_lt n (by decide))]
  unfold figs
  rw [← t, List.map_append]
section
variable {m : MH} {P : D → MH → Prop} {i : Int} {x : Tx}
theorem ux_mulST : wp (up (mulS (.str x) (.int i) m)) P = ((-1000 ≤ i ∧ i ≤ 1000 ∧ x.length ≤ 100) ∧ P (.str (List.replicate i.toNat x).flatten) m) := up_ite
theorem ux_strI (h1 : -10000000000000000000000000000000000000000 < i) (h2 : i < 10000000000000000000000000000000000000000) : wp (up (strF [.int i] m)) P = P (.str (strInt i)) m := by
  have h : i.natAbs < 10 ^ 40 := by
    have : (10 : Nat) ^ 40 = 10000000000000000000000000000000000000000 := rfl
    omega
  have h2 : i.natAbs < 10 ^ 500 := Nat.lt_of_lt_of_le h (Nat.pow_le_pow_right (by omega) (by omega))
  show wp (up (if i.natAbs < 10 ^ 500 then some (.str (strInt i), m) else none)) P = _
  rw [if_pos h2]
  rfl
theorem strInt_abs (i : Int) : strInt (if i < 0 then -i else i) = figs i.natAbs := by
  split
  · have e : (-i : Int) = ((i.natAbs : Nat) : Int) := by omega
    rw [e, strInt_nat]
  · have e : (i : Int) = ((i.natAbs : Nat) : Int) := by omega
    rw [e, strInt_nat]
    rfl
theorem strInt_eq (i : Int) : strInt i = (if i < 0 then [45] else []) ++ figs i.natAbs := by
  split
  · have e : i = -(((i.natAbs - 1 : Nat) : Int) + 1) := by omega
    have e2 : i.natAbs - 1 + 1 = i.natAbs := by omega
    rw [e, strInt_neg, ← e, e2]
    rfl
  · have e : (i : Int) = ((i.natAbs : Nat) : Int) := by omega
    rw [e, strInt_nat]
    rfl
theorem figs_lt (n : Nat) : ∀ c ∈ figs n, c < 0x110000 := fun c hc => by
  have := figs_mem hc
  omega
end
/-- a truth that decides -/
def bIf (d : D) (A B : Prop) : Prop := match isB d with
  | some true => A
  | some false => B
  | none => False
theorem bIf_bl {c : Bool} {A B : Prop} : bIf (.bl c) A B = if c = true then A else B := by
  cases c <;> rfl
section
variable {f : Fr} {m : MH} {P : D → MH → Prop}
theorem wq_andV {a b : Fr → MH → Out D} : wp (gAndV a b f m) P = wp (a f m) fun x m1 => bIf x (wp (b f m1) P) (P (.bl false) m1) := wp_andV
theorem wq_orV {a b : Fr → MH → Out D} : wp (gOrV a b f m) P = wp (a f m) fun x m1 => bIf x (P (.bl true) m1) (wp (b f m1) P) := wp_orV
theorem wq_chain {F G : D → D → MH → Opt D} {a b c : Fr → MH → Out D} : wp (gChain F G a b c f m) P = wp (a f m) fun x m1 => wp (b f m1) fun y m2 => wp (up (F x y m2)) fun z m3 => bIf z (wp (c f m3) fun w m4 => wp (up (G y w m4)) P) (P (.bl false) m3) := wp_chain
theorem ite_both {c : Prop} [Decidable c] {p : Prop} : (if c then p else p) = p := by
  split <;> rfl
end
end Mn
end

section
/-! Mini, part Y: split, lstrip, find by one sign, plainly. -/
namespace Mn
open PySem PySem.Spec PyProof.Rows L2
/-- the places of a sign -/
def posC (c : Nat) : Tx → Nat → List Nat
  | [], _ => []
  | a :: r, k => if a = c then k :: posC c r (k + 1) else posC c r (k + 1)
/-- split at a sign, so many times at most -/
def splitN (c : Nat) : Nat → Tx → List Tx
  | 0, x => [x]
  | _ + 1, [] => [[]]
  | l + 1, a :: r => if a = c then [] :: splitN c l r else (a :: (splitN c (l + 1) r).headD []) :: (splitN c (l + 1) r).tail
theorem splitN_ne (c l : Nat) (x : Tx) : splitN c l x = (splitN c l x).headD [] :: (splitN c l x).tail := by
  cases l with
  | zero => unfold splitN; rfl
  | succ l =>
    cases x with
    | nil => rfl
    | cons a r =>
      unfold splitN
      split <;> rfl
theorem tx_one_len {c : Nat} : (tx [c]).length = 1 := rfl
def runO (x : Tx) (c limit : Nat) (l : List Nat) (st : Array Nat × Nat) : Array Nat × Nat := (forIn (m := Id) l st (StrLaws.occBody (tx x) (tx [c]) (tx x).length limit)).run
theorem runO_nil {x : Tx} {c limit : Nat} {st : Array Nat × Nat} : runO x c limit [] st = st := rfl
theorem runO_cons {x : Tx} {c limit k : Nat} {l : List Nat} {st : Array Nat × Nat} : runO x c limit (k :: l) st = if ((st.fst.size < limit ∧ st.snd ≤ k) ∧ k + (tx [c]).length ≤ (tx x).length) ∧ Builtin.Str.subAt (tx x) (tx [c]) k = true then runO x c limit l (st.fst.push k, k + (tx [c]).length) else runO x c limit l (st.fst, st.snd) := by
  unfold runO
  rw [List.forIn_cons]
  unfold StrLaws.occBody
  split <;> rfl
theorem occ_c (x : Tx) (c limit : Nat) : Builtin.Str.occurrences (tx x) (tx [c]) 0 (tx x).length limit = (posC c x 0).take limit := by
  rw [StrLaws.occ_eq]
  have key : ∀ (n k : Nat) (st : Array Nat × Nat), x.length - k = n → k ≤ x.length → st.snd ≤ k →
      (runO x c limit (List.range' k (x.length + 1 - k)) st).fst.toList = st.fst.toList ++ (posC c (x.drop k) k).take (limit - st.fst.size) := by
    intro n
    induction n with
    | zero =>
      intro k st hn hk hs
      have e : k = x.length := by omega
      subst e
      rw [List.drop_length, show x.length + 1 - x.length = 1 by omega]
      show (runO x c limit [x.length] st).fst.toList = _
      rw [runO_cons, if_neg (fun z => by have := z.1.2; rw [tx_one_len, len_tx] at this; omega), runO_nil]
      show st.fst.toList = st.fst.toList ++ ([] : List Nat).take _
      rw [List.take_nil, List.append_nil]
    | succ n ih =>
      intro k st hn hk hs
      have hlt : k < x.length := by omega
      rw [show x.length + 1 - k = (x.length + 1 - (k + 1)) + 1 by omega, List.range'_succ, runO_cons]
      have hg : x.drop k = x[k] :: x.drop (k + 1) := List.drop_eq_getElem_cons hlt
      have hsub : (k + (tx [c]).length ≤ (tx x).length ∧ Builtin.Str.subAt (tx x) (tx [c]) k = true) ↔ x[k] = c := by
        have := StrLaws.subAt_one (tx x) c k
        have e : (⟨#[c]⟩ : Str) = tx [c] := rfl
        rw [e] at this
        rw [this, cps_tx, List.getElem?_eq_getElem hlt]
        exact ⟨fun z => Option.some.inj z, fun z => congrArg some z⟩
      rw [hg]
      unfold posC
      by_cases hc : x[k] = c
      · rw [if_pos hc]
        obtain ⟨h1, h2⟩ := hsub.mpr hc
        by_cases hl : st.fst.size < limit
        · rw [if_pos ⟨⟨⟨hl, hs⟩, h1⟩, h2⟩, ih (k + 1) (st.fst.push k, k + (tx [c]).length) (by omega) (by omega) (by rw [tx_one_len]; exact Nat.le_refl _), Array.toList_push, Array.size_push, List.append_assoc]
          have e : limit - st.fst.size = (limit - (st.fst.size + 1)) + 1 := by omega
          rw [e, List.take_succ_cons]
          rfl
        · rw [if_neg (fun z => hl z.1.1.1), ih (k + 1) (st.fst, st.snd) (by omega) (by omega) (by show st.snd ≤ k + 1; omega)]
          have e : limit - st.fst.size = 0 := by omega
          show st.fst.toList ++ (posC c (x.drop (k + 1)) (k + 1)).take (limit - st.fst.size) = _
          rw [e, List.take_zero, List.take_zero]
      · rw [if_neg hc, if_neg (fun z => hc (hsub.mp ⟨z.1.2, z.2⟩))]
        exact ih (k + 1) (st.fst, st.snd) (by omega) (by omega) (by show st.snd ≤ k + 1; omega)
  have := key x.length 0 (#[], 0) (by omega) (by omega) (Nat.le_refl _)
  rw [List.drop_zero] at this
  show (runO x c limit (List.range' 0 ((tx x).length + 1 - 0)) _).fst.toList = _
  rw [len_tx, this]
  rfl
theorem cut_toList (x : Tx) (i j : Nat) : (Builtin.Str.strSub (tx x) i j).cps.toList = (x.drop i).take (j - i) := StrLaws.strSub_toList (tx x) i j
theorem parts_splitN (x : Tx) (c : Nat) : ∀ (n l k a : Nat), x.length - k = n → a ≤ k → k ≤ x.length →
    (StrLaws.partsFrom (tx x) 1 a ((posC c (x.drop k) k).take l)).map (·.cps.toList) = ((x.drop a).take (k - a) ++ (splitN c l (x.drop k)).headD []) :: (splitN c l (x.drop k)).tail := by
  intro n
  induction n with
  | zero =>
    intro l k a hn ha hk
    have e : k = x.length := by omega
    subst e
    rw [List.drop_length]
    unfold posC
    rw [List.take_nil]
    have e2 : splitN c l [] = [[]] := by cases l <;> rfl
    rw [e2]
    show [(Builtin.Str.strSub (tx x) a (tx x).length).cps.toList] = _
    rw [cut_toList, len_tx]
    simp
  | succ n ih =>
    intro l k a hn ha hk
    have hlt : k < x.length := by omega
    have hg : x.drop k = x[k] :: x.drop (k + 1) := List.drop_eq_getElem_cons hlt
    cases l with
    | zero =>
      rw [List.take_zero]
      have e0 : splitN c 0 (x.drop k) = [x.drop k] := by unfold splitN; rfl
      rw [e0]
      show [(Builtin.Str.strSub (tx x) a (tx x).length).cps.toList] = [(x.drop a).take (k - a) ++ x.drop k]
      rw [cut_toList, len_tx, List.take_of_length_le (by rw [List.length_drop]; omega)]
      congr 1
      have e : x.drop k = (x.drop a).drop (k - a) := by
        rw [List.drop_drop]
        congr 1
        omega
      rw [e, List.take_append_drop]
    | succ l =>
      rw [hg]
      unfold posC splitN
      by_cases hc : x[k] = c
      · rw [if_pos hc, if_pos hc, List.take_succ_cons]
        show (Builtin.Str.strSub (tx x) a k).cps.toList :: (StrLaws.partsFrom (tx x) 1 (k + 1) ((posC c (x.drop (k + 1)) (k + 1)).take l)).map (·.cps.toList) = _
        rw [ih l (k + 1) (k + 1) (by omega) (Nat.le_refl _) (by omega), cut_toList, Nat.sub_self, List.take_zero, List.nil_append, ← splitN_ne]
        simp
      · rw [if_neg hc, if_neg hc, ih (l + 1) (k + 1) a (by omega) (by omega) (by omega)]
        show _ = ((x.drop a).take (k - a) ++ (x[k] :: (splitN c (l + 1) (x.drop (k + 1))).headD [])) :: (splitN c (l + 1) (x.drop (k + 1))).tail
        congr 1
        have e : (x.drop a).take (k + 1 - a) = (x.drop a).take (k - a) ++ [x[k]] := by
          have e1 : k + 1 - a = (k - a) + 1 := by omega
          rw [e1, List.take_add_one, List.getElem?_drop, show a + (k - a) = k by omega, List.getElem?_eq_getElem hlt]
          rfl
        rw [e, List.append_assoc]
        rfl
theorem kind_one {c : Nat} (h : c < 256) : Builtin.Str.strKind (tx [c]) = 1 := by
  unfold Builtin.Str.strKind
  have : (tx [c]).cps.all (· < 256) = true := by
    show ([c].toArray).all (fun x => decide (x < 256)) = true
    simp [h]
  rw [if_pos this]
theorem kind_pos (x : Str) : 1 ≤ Builtin.Str.strKind x := by
  unfold Builtin.Str.strKind
  split
  · omega
  · split <;> omega
theorem split_any (x : Tx) {c : Nat} (hc : c < 256) (l : Nat) : (if (decide ((tx x).length < (tx [c]).length) || decide (Builtin.Str.strKind (tx x) < Builtin.Str.strKind (tx [c]))) = true then [tx x] else
    if (Builtin.Str.occurrences (tx x) (tx [c]) 0 (tx x).length l).isEmpty = true then [tx x] else Builtin.Str.partsBetween (tx x) (Builtin.Str.occurrences (tx x) (tx [c]) 0 (tx x).length l) (tx [c]).length).map (·.cps.toList) = splitN c l x := by
  have h := parts_splitN x c x.length l 0 0 (by omega) (Nat.le_refl _) (by omega)
  rw [List.drop_zero, Nat.sub_self, List.take_zero, List.nil_append, ← splitN_ne] at h
  rw [kind_one hc, occ_c]
  have hk := kind_pos (tx x)
  rw [decide_eq_false (show ¬ Builtin.Str.strKind (tx x) < 1 by omega), Bool.or_false, tx_one_len, len_tx]
  have one : (posC c x 0).take l = [] → [tx x].map (·.cps.toList) = splitN c l x := fun e => by
    rw [e] at h
    rw [← h]
    show [x] = [(Builtin.Str.strSub (tx x) 0 (tx x).length).cps.toList]
    rw [cut_toList, len_tx, List.drop_zero, Nat.sub_zero, List.take_length]
  split
  · rename_i h1
    have h1 := of_decide_eq_true h1
    have e : x = [] := List.eq_nil_of_length_eq_zero (by omega)
    subst e
    exact one (by unfold posC; exact List.take_nil)
  · split
    · rename_i h1 h2
      exact one (List.isEmpty_iff.mp h2)
    · rw [StrLaws.partsBetween_eq]
      exact h
theorem splitN_big (c : Nat) : ∀ (x : Tx) (l l2 : Nat), x.length < l → x.length < l2 → splitN c l x = splitN c l2 x
  | [], l + 1, l2 + 1, _, _ => rfl
  | a :: r, l + 1, l2 + 1, h, h2 => by
    rw [List.length_cons] at h h2
    unfold splitN
    rw [splitN_big c r l l2 (by omega) (by omega), splitN_big c r (l + 1) (l2 + 1) (by omega) (by omega)]
/-- split at a sign -/
def splitC (c : Nat) (x : Tx) : List Tx := splitN c (x.length + 1) x
theorem spl_map (ss : List Str) : spl ss = (ss.map (·.cps.toList)).map D.str := by
  unfold spl
  rw [List.map_map]
  rfl
theorem split_c (x : Tx) {c : Nat} (hc : c < 256) : spl (Txt.split (tx x) (tx [c])) = (splitC c x).map D.str := by
  rw [spl_map]
  unfold Txt.split splitC
  rw [split_any x hc, len_tx]
theorem split_cM (x : Tx) {c : Nat} (hc : c < 256) (k : Nat) : spl (Txt.splitMax (tx x) (tx [c]) k) = (splitN c k x).map D.str := by
  rw [spl_map]
  unfold Txt.splitMax
  rw [split_any x hc]
  unfold limitOf
  rw [if_neg (by omega)]
  rfl
theorem lstrip_c (x : Tx) (c : Nat) : (Txt.lstripChars (tx x) (tx [c])).cps.toList = x.dropWhile (· == c) := by
  unfold Txt.lstripChars
  rw [stripBy_eq, StrLaws.strSub_toList]
  have e : (fun a => (tx [c]).cps.contains a) = fun a => a == c := by
    funext a
    show ([c].toArray).contains a = _
    by_cases h : a = c <;> simp [h]
  have e0 : (tx [c]).cps.contains = fun a => a == c := e
  rw [e0]
  unfold stripHi stripLo
  rw [if_neg Bool.false_ne_true, if_pos rfl]
  show (x.drop (x.takeWhile (· == c)).length).take (x.length - (x.takeWhile (· == c)).length) = _
  have d : x.drop (x.takeWhile (· == c)).length = x.dropWhile (· == c) := by
    have h := List.takeWhile_append_dropWhile (p := (· == c)) (l := x)
    generalize x.takeWhile (· == c) = u at h ⊢
    generalize x.dropWhile (· == c) = v at h ⊢
    rw [← h]
    simp
  rw [← d, List.take_of_length_le (by rw [List.length_drop]; exact Nat.le_refl _)]
section
variable {m : MH} {P : D → MH → Prop} {x : Tx} {c : Nat}
theorem ux_split (hc : c < 256 := by decide) : wp (up (splitM (.str x) [.str [c]] m)) P = (x.length ≤ 100000 ∧ P (.ref m.length) (m ++ [.lst ((splitC c x).map D.str)])) := by
  show wp (up (if ([c] : Tx).length ≠ 0 ∧ x.length ≤ 100000 then some (.ref m.length, m ++ [.lst (spl (Txt.split (tx x) (tx [c])))]) else none)) P = _
  rw [up_ite, split_c x hc]
  simp
theorem ux_splitM {k : Nat} (hk : k ≤ 100000) (hc : c < 256 := by decide) : wp (up (splitM (.str x) [.str [c], .int (k : Nat)] m)) P = (x.length ≤ 100000 ∧ P (.ref m.length) (m ++ [.lst ((splitN c k x).map D.str)])) := by
  show wp (up (if ([c] : Tx).length ≠ 0 ∧ x.length ≤ 100000 ∧ (0 : Int) ≤ (k : Nat) ∧ ((k : Nat) : Int) ≤ 100000 then some (.ref m.length, m ++ [.lst (spl (Txt.splitMax (tx x) (tx [c]) (k : Nat)))]) else none)) P = _
  rw [up_ite, split_cM x hc]
  have h1 : (0 : Int) ≤ (k : Nat) := by omega
  have h2 : ((k : Nat) : Int) ≤ 100000 := by omega
  simp [h1, h2]
theorem ux_splitM1 (hc : c < 256 := by decide) : wp (up (splitM (.str x) [.str [c], .int 1] m)) P = (x.length ≤ 100000 ∧ P (.ref m.length) (m ++ [.lst ((splitN c 1 x).map D.str)])) := ux_splitM (k := 1) (by decide) hc
theorem ux_lstrip : wp (up (lstripM (.str x) [.str [c]] m)) P = (x.length ≤ 100000 ∧ P (.str (x.dropWhile (· == c))) m) := by
  show wp (up (if x.length ≤ 100000 then some (D.str (Txt.lstripChars (tx x) (tx [c])).cps.toList, m) else none)) P = _
  rw [up_ite, lstrip_c]
end
/-- what split gives, in all -/
theorem splitN_len (c l : Nat) (x : Tx) : (splitN c l x).length ≤ x.length + 1 := by
  induction x generalizing l with
  | nil => cases l <;> simp [splitN]
  | cons a r ih =>
    cases l with
    | zero => simp [splitN]
    | succ l =>
      unfold splitN
      split
      · have := ih l
        simp
        omega
      · have := ih (l + 1)
        simp
        omega
theorem splitN_mem (c l : Nat) (x : Tx) : ∀ w ∈ splitN c l x, w.length ≤ x.length ∧ ∀ d ∈ w, d ∈ x := by
  induction x generalizing l with
  | nil =>
    intro w hw
    have : w = [] := by cases l <;> simpa [splitN] using hw
    subst this
    simp
  | cons a r ih =>
    intro w hw
    cases l with
    | zero =>
      have : w = a :: r := by simpa [splitN] using hw
      subst this
      simp
    | succ l =>
      unfold splitN at hw
      have h2 : ∀ w ∈ splitN c l r, w.length ≤ (a :: r).length ∧ ∀ d ∈ w, d ∈ a :: r := fun w hw => by
        have := ih l w hw
        exact ⟨by rw [List.length_cons]; omega, fun d hd => List.mem_cons_of_mem _ (this.2 d hd)⟩
      split at hw
      · rcases List.mem_cons.mp hw with hw | hw
        · subst hw
          simp
        · exact h2 w hw
      · have hh := ih (l + 1)
        rw [splitN_ne] at hh
        rcases List.mem_cons.mp hw with hw | hw
        · subst hw
          have := hh _ List.mem_cons_self
          refine ⟨by rw [List.length_cons, List.length_cons]; omega, fun d hd => ?_⟩
          rcases List.mem_cons.mp hd with hd | hd
          · rw [hd]
            exact List.mem_cons_self
          · exact List.mem_cons_of_mem _ (this.2 d hd)
        · have := hh _ (List.mem_cons_of_mem _ hw)
          exact ⟨by rw [List.length_cons]; omega, fun d hd => List.mem_cons_of_mem _ (this.2 d hd)⟩
/-- the first of a split -/
theorem splitN_head (c l : Nat) (x : Tx) : (splitN c (l + 1) x).headD [] = x.takeWhile (· != c) := by
  induction x with
  | nil => rfl
  | cons a r ih =>
    unfold splitN
    by_cases h : a = c
    · rw [if_pos h]
      simp [h]
    · rw [if_neg h]
      show a :: (splitN c (l + 1) r).headD [] = _
      rw [ih]
      simp [h]
/-- signs from the blank to ~ -/
def Plain (x : Tx) : Prop := ∀ c ∈ x, 32 ≤ c ∧ c ≤ 126
theorem Plain.app {x y : Tx} (h : Plain x) (h2 : Plain y) : Plain (x ++ y) := fun c hc => (List.mem_append.mp hc).elim (h c) (h2 c)
theorem Plain.take {x : Tx} (h : Plain x) (n : Nat) : Plain (x.take n) := fun c hc => h c (List.mem_of_mem_take hc)
theorem Plain.drop {x : Tx} (h : Plain x) (n : Nat) : Plain (x.drop n) := fun c hc => h c (List.mem_of_mem_drop hc)
theorem Plain.lt {x : Tx} (h : Plain x) : ∀ c ∈ x, c < 0x110000 := fun c hc => by
  have := h c hc
  omega
def plainB (n : Nat) : D → Bool
  | .str x => decide (x.length ≤ n) && x.all fun c => decide (32 ≤ c) && decide (c ≤ 126)
  | _ => false
theorem plainB_get {n : Nat} {d : D} (h : plainB n d = true) : ∃ x, d = .str x ∧ x.length ≤ n ∧ Plain x := by
  cases d with
  | str x =>
    have h : (decide (x.length ≤ n) && x.all fun c => decide (32 ≤ c) && decide (c ≤ 126)) = true := h
    rw [Bool.and_eq_true, decide_eq_true_eq, List.all_eq_true] at h
    refine ⟨x, rfl, h.1, fun c hc => ?_⟩
    have := h.2 c hc
    rw [Bool.and_eq_true, decide_eq_true_eq, decide_eq_true_eq] at this
    exact this
  | _ => cases h
theorem ixS_then {m : MH} {P : D → MH → Prop} {a : Nat} {i : Int} {xs : List D} (n : Nat) (h : m[a]? = some (.lst xs)) (h0 : 0 ≤ i) (h1 : i < xs.length) (hb : xs.all (plainB n) = true) (q : ∀ x, x.length ≤ n → Plain x → P (.str x) m) : wp (up (ixD (.ref a) (.int i) m)) P :=
  ix_then h h0 h1 fun d hd => by
    obtain ⟨x, rfl, a, b⟩ := plainB_get (List.all_eq_true.mp hb d hd)
    exact q x a b
/-- lc_pen, over a heap written otherwise -/
theorem lc_penE (m : MH) {M : MH} {a : Nat} {k : Bool} {o : Nat} {j p b c : Nat} {te : Fr → MH → Out D} {fw : Fr} {Q : D → MH → Prop} {lo : Int} {n : Nat} (C : D → Prop) (hM : M = m ++ [.lst []]) (hm : a = m.length) (hn : n ≤ 100000) (h0 : Pen k o m p (b + c * n))
    (h : ∀ i m1 b1, i < n → Ext p m m1 → Pen k o m1 p (b1 + c) → m1.length > m.length → wp (te (fw.set j (some (.int (lo + (i : Nat) * 1)))) m1) fun y m2 => C y ∧ Ext p m1 m2 ∧ Pen k o m2 p b1)
    (q : ∀ acc m1, acc.length = n → (∀ d ∈ acc, C d) → m1[m.length]? = some (.lst acc) → Ext p m m1 → Pen k o m1 p b → Q (.ref m.length) m1) : wp (loopC (rngS lo 1 n) (.nm j) gYes te fw a wfuel 0 M) Q := by
  subst hM
  subst hm
  exact lc_pen C hn h0 h q
theorem sum_le {n : Nat} : ∀ {ys : List Tx}, (∀ y ∈ ys, y.length ≤ n) → (ys.map (·.length)).sum ≤ ys.length * n
  | [], _ => by simp
  | y :: ys, h => by
    rw [List.map_cons, List.sum_cons, List.length_cons, Nat.succ_mul]
    have h1 := h y List.mem_cons_self
    have h2 := sum_le (ys := ys) fun z hz => h z (List.mem_cons_of_mem _ hz)
    omega
theorem joinTx_len (s : Tx) : ∀ ys : List Tx, (joinTx s ys).length ≤ (ys.map (·.length)).sum + ys.length * s.length
  | [] => by simp [joinTx]
  | [x] => by simp [joinTx]
  | x :: y :: l => by
    have h := joinTx_len s (y :: l)
    show (x ++ s ++ joinTx s (y :: l)).length ≤ _
    rw [List.length_append, List.length_append, List.map_cons, List.sum_cons, List.length_cons, Nat.succ_mul]
    omega
theorem joinTx_mem {s : Tx} {c : Nat} : ∀ {ys : List Tx}, c ∈ joinTx s ys → c ∈ s ∨ ∃ y ∈ ys, c ∈ y
  | [], h => by simp [joinTx] at h
  | [x], h => .inr ⟨x, List.mem_cons_self, h⟩
  | x :: y :: l, h => by
    have h : c ∈ x ++ s ++ joinTx s (y :: l) := h
    rcases List.mem_append.mp h with h | h
    · rcases List.mem_append.mp h with h | h
      · exact .inr ⟨x, List.mem_cons_self, h⟩
      · exact .inl h
    · rcases joinTx_mem h with h | ⟨z, hz, h⟩
      · exact .inl h
      · exact .inr ⟨z, List.mem_cons_of_mem _ hz, h⟩
section
variable {α : Type} {a b c d e g : α} {t : List α}
theorem atI_0 : atI (a :: t) 0 = some a := by
  rw [atI_pos (by omega) (by simp only [List.length_cons]; omega)]
  rfl
theorem atI_1 : atI (a :: b :: t) 1 = some b := by
  rw [atI_pos (by omega) (by simp only [List.length_cons]; omega)]
  rfl
theorem atI_2 : atI (a :: b :: c :: t) 2 = some c := by
  rw [atI_pos (by omega) (by simp only [List.length_cons]; omega)]
  rfl
theorem atI_3 : atI (a :: b :: c :: d :: t) 3 = some d := by
  rw [atI_pos (by omega) (by simp only [List.length_cons]; omega)]
  rfl
theorem atI_4 : atI (a :: b :: c :: d :: e :: t) 4 = some e := by
  rw [atI_pos (by omega) (by simp only [List.length_cons]; omega)]
  rfl
theorem atI_5 : atI (a :: b :: c :: d :: e :: g :: t) 5 = some g := by
  rw [atI_pos (by omega) (by simp only [List.length_cons]; omega)]
  rfl
end
theorem splitC_nil {c : Nat} : splitC c [] = [[]] := rfl
theorem splitC_cons {c a : Nat} {r : Tx} : splitC c (a :: r) = if a = c then [] :: splitC c r else (a :: (splitC c r).headD []) :: (splitC c r).tail := by
  unfold splitC
  rw [List.length_cons]
  show splitN c (r.length + 1 + 1) (a :: r) = _
  conv => lhs; unfold splitN
  rw [splitN_big c r (r.length + 1 + 1) (r.length + 1) (by omega) (by omega)]
theorem splitC_ne (c : Nat) (x : Tx) : splitC c x = (splitC c x).headD [] :: (splitC c x).tail := splitN_ne c _ x
section
variable {m : MH} {P : D → MH → Prop} {a : Nat} {i : Int}
theorem gx_mulL : wp (up (mulS (.ref a) (.int i) m)) P = match m[a]? with
    | some (.lst xs) => (-1000 ≤ i ∧ i ≤ 1000 ∧ xs.length ≤ 100) ∧ P (.ref m.length) (m ++ [.lst (List.replicate i.toNat xs).flatten])
    | _ => False := by
  unfold mulS
  cases e : m[a]? with
  | none => simp only [e]; rfl
  | some o =>
    cases o with
    | lst xs => simp only [e]; exact up_ite
    | dct xs => simp only [e]; rfl
    | ins _ _ => simp only [e]; rfl
theorem ux_neSh {k w k2 w2 : Nat} {a b : D} {p : PyData} (ha : Sh m k w a p) (hb : Sh m k2 w2 b p) (hk : k ≤ 60) (hk2 : k2 ≤ 60) (hw : w ≤ 400000) (hw2 : w2 ≤ 400000) : wp (up (neD a b m)) P = P (.bl false) m := by
  rw [ux_neP ha hb hk hk2 hw hw2, eqv_refl p ha.nd]
  rfl
theorem ux_eqSh {k w k2 w2 : Nat} {a b : D} {p : PyData} (ha : Sh m k w a p) (hb : Sh m k2 w2 b p) (hk : k ≤ 60) (hk2 : k2 ≤ 60) (hw : w ≤ 400000) (hw2 : w2 ≤ 400000) : wp (up (eqD a b m)) P = P (.bl true) m := by
  rw [ux_eqP ha hb hk hk2 hw hw2, eqv_refl p ha.nd]
/-- a list of truths -/
theorem shs_bls {k : Nat} : ∀ bs : List Bool, Shs m k bs.length (bs.map D.bl) (bs.map PyData.bool)
  | [] => .nil
  | b :: bs => .cons (.bl (w := 0)) (shs_bls bs) (by rw [List.length_cons]; omega)
theorem sh_bls {bs : List Bool} {us : List D} (h : m[a]? = some (.lst us)) (e : us = bs.map D.bl) : Sh m 1 bs.length (.ref a) (.list (bs.map PyData.bool)) := Sh.lst (k := 0) (e ▸ h) (shs_bls bs)
theorem sh_str {k : Nat} {x : Tx} (hx : x.length ≤ 200) (hc : ∀ c ∈ x, c < 0x110000) : Sh m k 200 (.str x) (.str (tx x)) := .str hc hx
/-- two short texts -/
theorem sh_two {x y : Tx} (hx : x.length ≤ 200) (hc : ∀ c ∈ x, c < 0x110000) (hy : y.length ≤ 200) (hd : ∀ c ∈ y, c < 0x110000) : Sh m 1 500 (.tup [.str x, .str y]) (.tuple [.str (tx x), .str (tx y)]) :=
  .tup (k := 0) (.cons (sh_str hx hc) (.cons (sh_str hy hd) (.nil (w := 0)) (Nat.le_refl _)) (by omega))
end
theorem get_newk {m g : MH} {k : Nat} : (m ++ g)[m.length + k]? = g[k]? := by
  rw [List.getElem?_append_right (by omega), Nat.add_sub_cancel_left]
theorem get_newK {m g : MH} {o : MO} (k : Nat) (h : g[k]? = some o) : (m ++ g)[m.length + k]? = some o := get_newk.trans h
section
variable {m : MH} {P : D → MH → Prop} {a : Nat}
theorem gx_sort : wp (up (sortF [.ref a] m)) P = match m[a]? with
    | some (.lst xs) => (match intsOf xs with
      | some js => P (.ref m.length) (m ++ [.lst ((isort js).map .int)])
      | none => match txsOf xs with
        | some ys => ys.length < 64 ∧ P (.ref m.length) (m ++ [.lst ((tsort ys).map .str)])
        | none => False)
    | some (.dct kvs) => kvs.length < 64 ∧ (match intsOf (kvs.map fun kv => keyD kv.1) with
        | some js => P (.ref m.length) (m ++ [.lst ((isort js).map .int)])
        | none => match txsOf (kvs.map fun kv => keyD kv.1) with
          | some ys => P (.ref m.length) (m ++ [.lst ((tsort ys).map .str)])
          | none => False)
    | _ => False := by
  unfold sortF
  cases e : m[a]? with
  | none => simp only [e]; rfl
  | some o =>
    cases o with
    | lst xs =>
      simp only [e]
      cases intsOf xs with
      | some js => rfl
      | none =>
        cases txsOf xs with
        | none => rfl
        | some ys => exact up_ite
    | dct kvs =>
      simp only [e]
      by_cases h : kvs.length < 64
      · rw [if_pos h]
        cases intsOf (kvs.map fun kv => keyD kv.1) with
        | some js => exact propext ⟨fun z => ⟨h, z⟩, fun z => z.2⟩
        | none =>
          cases txsOf (kvs.map fun kv => keyD kv.1) with
          | none => exact propext ⟨fun z => ⟨h, z⟩, fun z => z.2⟩
          | some ys => exact propext ⟨fun z => ⟨h, z⟩, fun z => z.2⟩
      · rw [if_neg h]
        exact propext ⟨fun z => z.elim, fun z => (h z.1).elim⟩
    | ins _ _ => simp only [e]; rfl
theorem gx_dct : wp (up (dctF [.ref a] m)) P = match m[a]? with
    | some (.dct kvs) => P (.ref m.length) (m ++ [.dct kvs])
    | _ => False := by
  unfold dctF
  cases e : m[a]? with
  | none => simp only [e]; rfl
  | some o =>
    cases o with
    | lst xs => simp only [e]; rfl
    | dct xs => simp only [e]; rfl
    | ins _ _ => simp only [e]; rfl
theorem gx_mulT {xs : List D} {i : Int} : wp (up (mulS (.tup xs) (.int i) m)) P = ((xs ≠ [] ∧ 2 ≤ i ∧ i ≤ 1000 ∧ xs.length ≤ 1000) ∧ P (.tup (List.replicate i.toNat xs).flatten) m) := up_ite
end
theorem ux_neSL {m : MH} {P : D → MH → Prop} {a b : Nat} {us vs : List D} {xs ys : List Tx} (h : m[a]? = some (.lst us)) (h2 : m[b]? = some (.lst vs)) (e : us = xs.map D.str) (e2 : vs = ys.map D.str) (o : StrsOk xs) (o2 : StrsOk ys) : wp (up (neD (.ref a) (.ref b) m)) P = P (.bl (!decide (xs = ys))) m := by
  subst e
  subst e2
  rw [ux_neP (o.shL h) (o2.shL h2) (by omega) (by omega) (by omega) (by omega)]
  have : PyData.eqv (.list (xs.map pyS)) (.list (ys.map pyS)) = decide (xs = ys) := eqvAll_strs xs ys
  rw [this]
theorem blanks_plain (n : Nat) : Plain (List.replicate n 32) := fun c hc => by
  rw [List.eq_of_mem_replicate hc]
  omega
theorem rep_one (n : Nat) (c : Nat) : (List.replicate n ([c] : Tx)).flatten = List.replicate n c := by
  induction n with
  | zero => rfl
  | succ n ih =>
    rw [List.replicate_succ, List.flatten_cons, ih, List.replicate_succ]
    rfl
section
variable {m : MH} {P : D → MH → Prop} {a b : Bool}
theorem ux_isB : wp (up (isD (.bl a) (.bl b) m)) P = P (.bl (decide (a = b))) m := rfl
theorem ux_notB : wp (up (notD (.bl a) (.bl b) m)) P = P (.bl (!decide (a = b))) m := rfl
theorem ux_isNN : wp (up (isD .non .non m)) P = P (.bl true) m := rfl
theorem ux_notNN : wp (up (notD .non .non m)) P = P (.bl false) m := rfl
theorem ux_isSN {x : Tx} : wp (up (isD (.str x) .non m)) P = P (.bl false) m := rfl
theorem ux_notSN {x : Tx} : wp (up (notD (.str x) .non m)) P = P (.bl true) m := rfl
theorem ux_isIN {x : Int} : wp (up (isD (.int x) .non m)) P = P (.bl false) m := rfl
theorem ux_notIN {x : Int} : wp (up (notD (.int x) .non m)) P = P (.bl true) m := rfl
theorem ux_isTN {x : List D} : wp (up (isD (.tup x) .non m)) P = P (.bl false) m := rfl
theorem ux_notTN {x : List D} : wp (up (notD (.tup x) .non m)) P = P (.bl true) m := rfl
theorem ux_isRN {x : Nat} : wp (up (isD (.ref x) .non m)) P = P (.bl false) m := rfl
theorem ux_notRN {x : Nat} : wp (up (notD (.ref x) .non m)) P = P (.bl true) m := rfl
end
theorem ints_at {i : Int} {xs : List D} (lo hi : Int) (h0 : 0 ≤ i) (h1 : i < xs.length) (hb : xs.all (intIn lo hi) = true) : ∃ v, atI xs i = some (.int v) ∧ lo ≤ v ∧ v ≤ hi := by
  have hlt : i.toNat < xs.length := by omega
  rw [atI_pos h0 h1, List.getElem?_eq_getElem hlt]
  obtain ⟨v, e, a, b⟩ := intIn_get (List.all_eq_true.mp hb _ (List.getElem_mem hlt))
  exact ⟨v, congrArg some e, a, b⟩
theorem strs_at {i : Int} {xs : List D} (n : Nat) (h0 : 0 ≤ i) (h1 : i < xs.length) (hb : xs.all (plainB n) = true) : ∃ x, atI xs i = some (.str x) ∧ x.length ≤ n ∧ Plain x := by
  have hlt : i.toNat < xs.length := by omega
  rw [atI_pos h0 h1, List.getElem?_eq_getElem hlt]
  obtain ⟨v, e, a, b⟩ := plainB_get (List.all_eq_true.mp hb _ (List.getElem_mem hlt))
  exact ⟨v, congrArg some e, a, b⟩
theorem any_at {i : Int} {xs : List D} (h0 : 0 ≤ i) (h1 : i < xs.length) : ∃ d, atI xs i = some d ∧ d ∈ xs := by
  have hlt : i.toNat < xs.length := by omega
  rw [atI_pos h0 h1, List.getElem?_eq_getElem hlt]
  exact ⟨_, rfl, List.getElem_mem hlt⟩
/-- a list of texts that were drawn, joined -/
theorem join_drawn {a s : Nat} {sep : Tx} {m : MH} {acc : List D} {R : Tx → Prop} {P : D → MH → Prop} (hg : m[a]? = some (.lst acc)) (hc : ∀ d ∈ acc, ∃ x, d = .str x ∧ R x) (hR : ∀ x, R x → x.length ≤ s) (hn : acc.length * (s + sep.length) ≤ 100000)
    (i : ∀ ys : List Tx, ys.length = acc.length → (∀ y ∈ ys, R y) → (joinTx sep ys).length ≤ acc.length * (s + sep.length) → P (.str (joinTx sep ys)) m) : wp (up (joinM (.str sep) [.ref a] m)) P := by
  obtain ⟨ys, rfl, hy⟩ := strs_get acc hc
  have h1 := sum_le fun y hy' => hR y (hy y hy')
  have h2 := joinTx_len sep ys
  rw [List.length_map] at hn i
  rw [Nat.mul_add] at hn
  rw [ux_join hg (by omega)]
  refine i ys rfl hy ?_
  rw [Nat.mul_add]
  omega
theorem plain_join {ys : List Tx} {sep : Tx} (hs : Plain sep) (h : ∀ y ∈ ys, Plain y) : Plain (joinTx sep ys) := fun c hc => by
  rcases joinTx_mem hc with hc | ⟨y, hy, hc⟩
  · exact hs c hc
  · exact h y hy c hc
theorem plain_nil : Plain [] := fun c hc => by simp at hc
end Mn
end

section
namespace Mn
open PySem PySem.Spec PyProof.Rows L2
set_option maxHeartbeats 1000000
variable {X : Cx} {k : Kx} {W : WX} {e : Expr} {tg : Expr} {t : Fr → MH → Out (List D)} {f : Fr} {m : MH}
theorem feed_rngc {r0 : List Addr} {H0 : Hp} {lo c : Int} {n : Nat} : Feed k r0 H0 (rngS lo c n) (Itc lo c n) := by
  intro r H m p kp hr i
  unfold rngS
  refine ⟨fun e => ?_, fun d e => ?_⟩
  · split at e
    · cases e
    · exact Nat.le_of_not_lt (by assumption)
  · split at e
    · rename_i h
      cases e
      refine ⟨h, ?_⟩
      rintro x H' ⟨rfl, rfl⟩
      exact ⟨.refl _, hr, rfl⟩
    · cases e
/-- down by one -/
def gRng3 (t : Fr → MH → Out (List D)) : Fr → MH → Out Src := fun f m => (t f m).bind fun xs m1 => match xs with
  | [.int i, .int j, .int c] => if (i62 i ∧ i62 j) ∧ c = -1 then .ok (rngS i c (i - j).toNat) m1 else .no
  | _ => .no
theorem ints3 {r : List Addr} {H : Hp} {i j l : Int} {vs : List V} (h : RVs k r H [.int i, .int j, .int l] vs) : vs = [.int i, .int j, .int l] := by
  obtain ⟨y, t, rfl, h1, h2⟩ := h
  have h1 : y = .int i := h1
  rw [h1, ints2 h2]
theorem si_rng3 {e : Expr} (h : PI X tg e (iRng3 (tM k (RVs k) W t))) : SI X W k tg e (gRng3 t) := by
  refine ⟨fun pins s σ H Rr I hq => h.run pins s σ H Rr I ?_⟩
  refine tM_bind (R2 := Feed k) (h := fun xs _ m1 => match xs with | [.int i, .int j, .int c] => if (i62 i ∧ i62 j) ∧ c = -1 then .ok (rngS i c (i - j).toNat) m1 else .no | _ => .no) hq fun xs r f m vs H1 hf hr hv q => ?_
  split at q
  · rename_i i j c
    split at q
    · rename_i hj
      obtain ⟨hj, rfl⟩ := hj
      exact ⟨i, j, -1, (i - j).toNat, ints3 hv, RgC.neg hj.1.1 hj.1.2 hj.2.1 hj.2.2, q r _ H1 (List.prefix_refl r) (.refl _) hr feed_rngc⟩
    · exact q.elim
  · exact q.elim
theorem wp_rng3 {t : Fr → MH → Out (List D)} {P : Src → MH → Prop} : wp (gRng3 t f m) P = wp (t f m) fun xs m1 => ∃ i j, xs = [.int i, .int j, .int (-1)] ∧ (i62 i ∧ i62 j) ∧ P (rngS i (-1) (i - j).toNat) m1 := by
  unfold gRng3
  rw [wp_bind]
  congr 1
  funext xs m1
  refine propext ⟨fun z => ?_, fun ⟨i, j, e, h, z⟩ => ?_⟩
  · split at z
    · rename_i i j c
      split at z
      · rename_i h
        obtain ⟨h, rfl⟩ := h
        exact ⟨i, j, rfl, h, z⟩
      · exact z.elim
    · exact z.elim
  · subst e
    simp only [and_true, if_pos h]
    exact z
/-! min and max of a list of ints -/
def maxOfI (x : Int) (xs : List Int) : Int := xs.foldl (fun a y => if a < y then y else a) x
def min1F : List D → MH → Opt D
  | [.ref a], m => match m[a]? with
    | some (.lst xs) => match intsOf xs with
      | some (j :: js) => some (.int (minOfI j js), m)
      | _ => none
    | _ => none
  | _, _ => none
def max1F : List D → MH → Opt D
  | [.ref a], m => match m[a]? with
    | some (.lst xs) => match intsOf xs with
      | some (j :: js) => some (.int (maxOfI j js), m)
      | _ => none
    | _ => none
  | _, _ => none
section
variable {n : Nat}
theorem cr_min1F (A : At X W k n) : CallR X (.builtin "min") (rN k min1F) := by
  intro pins s σ H xs us Q I rs h
  obtain ⟨r, m, ds, hr, hds, q⟩ := h
  unfold min1F at q
  split at q
  · obtain ⟨w, rfl, a, rfl, ea⟩ := rv1 hds
    split at q
    · rename_i xs hx
      obtain ⟨ys, hy, hv⟩ := hr.ob _ _ a hx ea
      obtain rfl := Vals.ref1 rs
      have hs : SqL X.K H a ys := .of hy
      obtain ⟨its, rv, hl, hz⟩ := I.list hs
      cases e : intsOf xs with
      | none =>
        rw [e] at q
        exact q.elim
      | some bs =>
        rw [e] at q
        cases bs with
        | nil => exact q.elim
        | cons j js =>
          have e2 := ints_rv hv e
          subst e2
          have hi := rv.ints
          refine PySem.W.min_list_datum (α := Int) (x := j) (xs := js) (I.ok.hd A.calm) hl.isList ⟨[], by rw [List.toList_toArray]; exact ints_readAll _ hi⟩ (by have := hu64 A; show X.A.units + 1 + 0 < cLine; omega) ?_
          rintro i v h' tk hiv ⟨as, hv'⟩ hk
          have hv' : Reads h' v (.int (PySem.W.minOf j js)) as := hv'
          have em : PySem.W.minOf j js = minOfI j js := by
            unfold PySem.W.minOf minOfI
            congr 1
            funext a b
            show (if decide (b < a) = true then b else a) = _
            by_cases hlt : b < a
            · rw [if_pos hlt, if_pos (decide_eq_true hlt)]
            · rw [if_neg hlt, decide_eq_false hlt]
              rfl
          rw [em] at hv'
          cases hv' with
          | int i t => exact ⟨.int _, H, I.kept (t' := tk) hk, ⟨_, rfl⟩, Ok.pure q hr rfl⟩
    · exact q.elim
  · exact q.elim
theorem cr_max1F (A : At X W k n) : CallR X (.builtin "max") (rN k max1F) := by
  intro pins s σ H xs us Q I rs h
  obtain ⟨r, m, ds, hr, hds, q⟩ := h
  unfold max1F at q
  split at q
  · obtain ⟨w, rfl, a, rfl, ea⟩ := rv1 hds
    split at q
    · rename_i xs hx
      obtain ⟨ys, hy, hv⟩ := hr.ob _ _ a hx ea
      obtain rfl := Vals.ref1 rs
      have hs : SqL X.K H a ys := .of hy
      obtain ⟨its, rv, hl, hz⟩ := I.list hs
      cases e : intsOf xs with
      | none =>
        rw [e] at q
        exact q.elim
      | some bs =>
        rw [e] at q
        cases bs with
        | nil => exact q.elim
        | cons j js =>
          have e2 := ints_rv hv e
          subst e2
          have hi := rv.ints
          refine PySem.W.max_list_datum (α := Int) (x := j) (xs := js) (I.ok.hd A.calm) hl.isList ⟨[], by rw [List.toList_toArray]; exact ints_readAll _ hi⟩ (by have := hu64 A; show X.A.units + 1 + 0 < cLine; omega) ?_
          rintro i v h' tk hiv ⟨as, hv'⟩ hk
          have hv' : Reads h' v (.int (PySem.W.maxOf j js)) as := hv'
          have em : PySem.W.maxOf j js = maxOfI j js := by
            unfold PySem.W.maxOf maxOfI
            congr 1
            funext a b
            show (if decide (a < b) = true then b else a) = _
            by_cases hlt : a < b
            · rw [if_pos hlt, if_pos (decide_eq_true hlt)]
            · rw [if_neg hlt, decide_eq_false hlt]
              rfl
          rw [em] at hv'
          cases hv' with
          | int i t => exact ⟨.int _, H, I.kept (t' := tk) hk, ⟨_, rfl⟩, Ok.pure q hr rfl⟩
    · exact q.elim
  · exact q.elim
end
theorem ux_min1 {P : D → MH → Prop} {a : Nat} {j : Int} {us : List D} {js : List Int} (h : m[a]? = some (.lst us)) (e : us = (j :: js).map D.int) : wp (up (min1F [.ref a] m)) P = P (.int (minOfI j js)) m := by
  subst e
  unfold min1F
  simp only [h, intsOf_map]
  rfl
theorem ux_max1 {P : D → MH → Prop} {a : Nat} {j : Int} {us : List D} {js : List Int} (h : m[a]? = some (.lst us)) (e : us = (j :: js).map D.int) : wp (up (max1F [.ref a] m)) P = P (.int (maxOfI j js)) m := by
  subst e
  unfold max1F
  simp only [h, intsOf_map]
  rfl
theorem maxOfI_ge (x : Int) (xs : List Int) : x ≤ maxOfI x xs ∧ (∀ y ∈ xs, y ≤ maxOfI x xs) ∧ maxOfI x xs ∈ x :: xs := by
  induction xs generalizing x with
  | nil => exact ⟨Int.le_refl _, (fun y hy => nomatch hy), List.mem_cons_self⟩
  | cons z zs ih =>
    have e : maxOfI x (z :: zs) = maxOfI (if x < z then z else x) zs := rfl
    rw [e]
    have f1 : x ≤ (if x < z then z else x) := by split <;> omega
    have f2 : z ≤ (if x < z then z else x) := by split <;> omega
    have f3 : (if x < z then z else x) = x ∨ (if x < z then z else x) = z := by
      by_cases h : x < z
      · exact .inr (if_pos h)
      · exact .inl (if_neg h)
    generalize (if x < z then z else x) = v at f1 f2 f3
    obtain ⟨h1, h2, h3⟩ := ih v
    refine ⟨by omega, fun y hy => ?_, ?_⟩
    · rcases List.mem_cons.mp hy with r | r
      · rw [r]
        omega
      · exact h2 y r
    · rcases List.mem_cons.mp h3 with r | r
      · rw [r]
        rcases f3 with r2 | r2
        · rw [r2]
          exact List.mem_cons_self
        · rw [r2]
          exact List.mem_cons_of_mem _ List.mem_cons_self
      · exact List.mem_cons_of_mem _ (List.mem_cons_of_mem _ r)
end Mn
end

section
namespace Lw
open PySem PySem.Spec PyProof.Rows L2 Mn
def top (i : Nat) : Stmt := PySem.Challenge.pw_trapsetter_k16_registers_put_in.main.body.getD i (.Pass ⟨0, 0, 0, 0⟩)
def d_clamped : He.DefD := ⟨("clamped", none), "clamped", "clamped", defArgs (top 6), defBody (top 6), defScope (top 6), [], [("least", .int (-9999)), ("most", .int 9999)]⟩
def d_roman : He.DefD := ⟨("roman", none), "roman", "roman", defArgs (top 7), defBody (top 7), defScope (top 7), [], []⟩
def d_shown : He.DefD := ⟨("shown", none), "shown", "shown", defArgs (top 8), defBody (top 8), defScope (top 8), [], []⟩
def d_stepped : He.DefD := ⟨("stepped", none), "stepped", "stepped", defArgs (top 9), defBody (top 9), defScope (top 9), [], []⟩
def d_is_name : He.DefD := ⟨("is_name", none), "is_name", "is_name", defArgs (top 11), defBody (top 11), defScope (top 11), [], [("least", .int 1)]⟩
def d_asked_at : He.DefD := ⟨("asked_at", none), "asked_at", "asked_at", defArgs (top 15), defBody (top 15), defScope (top 15), [], []⟩
def d_register_told : He.DefD := ⟨("register_told", none), "register_told", "register_told", defArgs (top 16), defBody (top 16), defScope (top 16), [], []⟩
def d_told_by : He.DefD := ⟨("told_by", none), "told_by", "told_by", defArgs (top 17), defBody (top 17), defScope (top 17), [], []⟩
def d_put_in : He.DefD := ⟨("put_in", none), "put_in", "put_in", defArgs (top 18), defBody (top 18), defScope (top 18), [], []⟩
def d_v_law_pen : He.DefD := ⟨("_law_pen", none), "_law_pen", "_law_pen", defArgs (top 20), defBody (top 20), defScope (top 20), [], []⟩
def d_v_law_draw : He.DefD := ⟨("_law_draw", none), "_law_draw", "_law_draw", defArgs (top 21), defBody (top 21), defScope (top 21), [], []⟩
def d_v_law_pick : He.DefD := ⟨("_law_pick", none), "_law_pick", "_law_pick", defArgs (top 22), defBody (top 22), defScope (top 22), [], []⟩
def d_v_law_form : He.DefD := ⟨("_law_form", none), "_law_form", "_law_form", defArgs (top 23), defBody (top 23), defScope (top 23), [], []⟩
def d_v_law_kept_in : He.DefD := ⟨("_law_kept_in", none), "_law_kept_in", "_law_kept_in", defArgs (top 24), defBody (top 24), defScope (top 24), [], []⟩
def d_v_law_walk_right : He.DefD := ⟨("_law_walk_right", none), "_law_walk_right", "_law_walk_right", defArgs (top 25), defBody (top 25), defScope (top 25), [], []⟩
def d_law : He.DefD := ⟨("law", none), "law", "law", defArgs (top 26), defBody (top 26), defScope (top 26), [], []⟩
structure Tx (k : Kx) (mg : Str → Option Value) : Prop where
  g_clamped : mg "clamped" = some (.ref (He.fAd k.K d_clamped.at_))
  g_roman : mg "roman" = some (.ref (He.fAd k.K d_roman.at_))
  g_shown : mg "shown" = some (.ref (He.fAd k.K d_shown.at_))
  g_stepped : mg "stepped" = some (.ref (He.fAd k.K d_stepped.at_))
  g_is_name : mg "is_name" = some (.ref (He.fAd k.K d_is_name.at_))
  g_asked_at : mg "asked_at" = some (.ref (He.fAd k.K d_asked_at.at_))
  g_register_told : mg "register_told" = some (.ref (He.fAd k.K d_register_told.at_))
  g_told_by : mg "told_by" = some (.ref (He.fAd k.K d_told_by.at_))
  g_put_in : mg "put_in" = some (.ref (He.fAd k.K d_put_in.at_))
  g_v_law_pen : mg "_law_pen" = some (.ref (He.fAd k.K d_v_law_pen.at_))
  g_v_law_draw : mg "_law_draw" = some (.ref (He.fAd k.K d_v_law_draw.at_))
  g_v_law_pick : mg "_law_pick" = some (.ref (He.fAd k.K d_v_law_pick.at_))
  g_v_law_form : mg "_law_form" = some (.ref (He.fAd k.K d_v_law_form.at_))
  g_v_law_kept_in : mg "_law_kept_in" = some (.ref (He.fAd k.K d_v_law_kept_in.at_))
  g_v_law_walk_right : mg "_law_walk_right" = some (.ref (He.fAd k.K d_v_law_walk_right.at_))
  g_law : mg "law" = some (.ref (He.fAd k.K d_law.at_))
  b_abs : mg "abs" = none
  b_all : mg "all" = none
  b_dict : mg "dict" = none
  b_int : mg "int" = none
  b_isinstance : mg "isinstance" = none
  b_len : mg "len" = none
  b_max : mg "max" = none
  b_min : mg "min" = none
  b_range : mg "range" = none
  b_repr : mg "repr" = none
  b_str : mg "str" = none
  n_FRESH : ∃ a, mg "FRESH" = some (.ref a) ∧ ∀ r H, RV k r H (.tup [(D.int 0), (D.int 0), (D.str [49])]) (.ref a)
  n_LETTERS : ∃ t, mg "LETTERS" = some (.str "abcdefghijklmnopqrstuvwxyz" t)
  n_MOST_ROMAN : ∃ t, mg "MOST_ROMAN" = some (.int 39 t)
  n_MOST_SIGNS : ∃ t, mg "MOST_SIGNS" = some (.int 200 t)
  n_ROMAN : ∃ a, mg "ROMAN" = some (.ref a) ∧ ∀ r H, RV k r H (.tup [(D.tup [(D.int 10), (D.str [120])]), (D.tup [(D.int 9), (D.str [105, 120])]), (D.tup [(D.int 5), (D.str [118])]), (D.tup [(D.int 4), (D.str [105, 118])]), (D.tup [(D.int 1), (D.str [105])])]) (.ref a)
  n_SHUT : ∃ t, mg "SHUT" = some (.str ")" t)
theorem Tx.c_FRESH {k : Kx} {X : Cx} {W : WX} {pos : Pos} (T : Tx k X.mg) (hg : Gl X "FRESH") : SE X W k (.Name "FRESH" pos) (gCon (.tup [(D.int 0), (D.int 0), (D.str [49])])) := by
  obtain ⟨a, e, h⟩ := T.n_FRESH
  exact se_con (v := .ref a) (pe_glob hg e rfl) h
theorem Tx.c_LETTERS {k : Kx} {X : Cx} {W : WX} {pos : Pos} (T : Tx k X.mg) (hg : Gl X "LETTERS") : SE X W k (.Name "LETTERS" pos) (gCon (.str [97, 98, 99, 100, 101, 102, 103, 104, 105, 106, 107, 108, 109, 110, 111, 112, 113, 114, 115, 116, 117, 118, 119, 120, 121, 122])) := by
  obtain ⟨t, e⟩ := T.n_LETTERS
  exact se_con (v := .str ("abcdefghijklmnopqrstuvwxyz")) (pe_glob hg e ⟨t, rfl⟩) fun _ _ => rfl
theorem Tx.c_MOST_ROMAN {k : Kx} {X : Cx} {W : WX} {pos : Pos} (T : Tx k X.mg) (hg : Gl X "MOST_ROMAN") : SE X W k (.Name "MOST_ROMAN" pos) (gCon (.int 39)) := by
  obtain ⟨t, e⟩ := T.n_MOST_ROMAN
  exact se_con (v := .int (39)) (pe_glob hg e ⟨t, rfl⟩) fun _ _ => rfl
theorem Tx.c_MOST_SIGNS {k : Kx} {X : Cx} {W : WX} {pos : Pos} (T : Tx k X.mg) (hg : Gl X "MOST_SIGNS") : SE X W k (.Name "MOST_SIGNS" pos) (gCon (.int 200)) := by
  obtain ⟨t, e⟩ := T.n_MOST_SIGNS
  exact se_con (v := .int (200)) (pe_glob hg e ⟨t, rfl⟩) fun _ _ => rfl
theorem Tx.c_ROMAN {k : Kx} {X : Cx} {W : WX} {pos : Pos} (T : Tx k X.mg) (hg : Gl X "ROMAN") : SE X W k (.Name "ROMAN" pos) (gCon (.tup [(D.tup [(D.int 10), (D.str [120])]), (D.tup [(D.int 9), (D.str [105, 120])]), (D.tup [(D.int 5), (D.str [118])]), (D.tup [(D.int 4), (D.str [105, 118])]), (D.tup [(D.int 1), (D.str [105])])])) := by
  obtain ⟨a, e, h⟩ := T.n_ROMAN
  exact se_con (v := .ref a) (pe_glob hg e rfl) h
theorem Tx.c_SHUT {k : Kx} {X : Cx} {W : WX} {pos : Pos} (T : Tx k X.mg) (hg : Gl X "SHUT") : SE X W k (.Name "SHUT" pos) (gCon (.str [41])) := by
  obtain ⟨t, e⟩ := T.n_SHUT
  exact se_con (v := .str (")")) (pe_glob hg e ⟨t, rfl⟩) fun _ _ => rfl
def b_clamped : GS := sRet (gFn maxF (gCons (gVar 1) (gCons (gFn minF (gCons (gVar 2) (gCons (gVar 0) (gNil)))) (gNil))))
noncomputable def f_clamped : List D → MH → Out D := fnD 3 b_clamped
noncomputable def l1_roman : GS := sSeq (sAug 1 iaddD (gVar 3))
    (sAug 0 subD (gVar 2))
noncomputable def l2_roman : GS := sWhile (gTest (gBin geD (gVar 0) (gVar 2))) l1_roman
noncomputable def b_roman : GS := sSeq (sSet 1 (gCon (.str [])))
    (sSeq (sFor (gIter (gCon (.tup [(D.tup [(D.int 10), (D.str [120])]), (D.tup [(D.int 9), (D.str [105, 120])]), (D.tup [(D.int 5), (D.str [118])]), (D.tup [(D.int 4), (D.str [105, 118])]), (D.tup [(D.int 1), (D.str [105])])]))) (.tp [2, 3]) l2_roman)
    (sRet (gVar 1)))
noncomputable def f_roman : List D → MH → Out D := fnD 4 b_roman
noncomputable def b_shown : GS := sSeq (sIf (gAnd (gTest (gBin eqD (gVar 1) (gCon (.str [97])))) (gTest (gChain leD leD (gCon (.int 1)) (gVar 0) (gFn lenF (gCons (gCon (.str [97, 98, 99, 100, 101, 102, 103, 104, 105, 106, 107, 108, 109, 110, 111, 112, 113, 114, 115, 116, 117, 118, 119, 120, 121, 122])) (gNil)))))) (sRet (gBin ixD (gCon (.str [97, 98, 99, 100, 101, 102, 103, 104, 105, 106, 107, 108, 109, 110, 111, 112, 113, 114, 115, 116, 117, 118, 119, 120, 121, 122])) (gBin subD (gVar 0) (gCon (.int 1))))) (sNil))
    (sSeq (sIf (gAnd (gTest (gBin eqD (gVar 1) (gCon (.str [105])))) (gTest (gChain leD leD (gCon (.int 1)) (gVar 0) (gCon (.int 39))))) (sRet (gCall f_roman (pD [.u 0] [] []) 1 0 (gCons (gVar 0) (gNil)) (gNil))) (sNil))
    (sSeq (sIf (gAnd (gTest (gBin eqD (gVar 1) (gCon (.str [48, 49])))) (gTest (gChain ltD ltD (gUn negD (gCon (.int 10))) (gVar 0) (gCon (.int 10))))) (sRet (gBin addD (gBin addD (gIf (gTest (gBin ltD (gVar 0) (gCon (.int 0)))) (gCon (.str [45])) (gCon (.str []))) (gCon (.str [48]))) (gFn strF (gCons (gFn absF (gCons (gVar 0) (gNil))) (gNil))))) (sNil))
    (sRet (gFn strF (gCons (gVar 0) (gNil))))))
noncomputable def f_shown : List D → MH → Out D := fnD 2 b_shown
noncomputable def b_stepped : GS := sSeq (sTg (.tp [1, 2, 3]) (gVar 0))
    (sRet (gFn dTup (gCons (gCall f_clamped (pD [.u 0, .m 0, .m 1] [] [.int (-9999), .int 9999]) 1 0 (gCons (gBin addD (gVar 1) (gVar 2)) (gNil)) (gNil)) (gCons (gVar 2) (gCons (gVar 3) (gNil))))))
noncomputable def f_stepped : List D → MH → Out D := fnD 4 b_stepped
def b_is_name : GS := sRet (gAndV (gFn isiF (gCons (gVar 0) (gCons (gCon (.cst 0)) (gNil)))) (gAndV (gChain leD leD (gVar 1) (gFn lenF (gCons (gVar 0) (gNil))) (gCon (.int 6))) (gFn allF (gCons (gLc (gIter (gVar 0)) (.nm 2) (gYes) (gBin inD (gVar 2) (gCon (.str [97, 98, 99, 100, 101, 102, 103, 104, 105, 106, 107, 108, 109, 110, 111, 112, 113, 114, 115, 116, 117, 118, 119, 120, 121, 122]))) [2]) (gNil)))))
noncomputable def f_is_name : List D → MH → Out D := fnD 3 b_is_name
def b_asked_at : GS := sSeq (sIf (gOr (gTest (gBin neD (gSl (gVar 0) (gPart (gVar 1)) (gPart (gBin addD (gVar 1) (gCon (.int 1))))) (gCon (.str [92])))) (gOr (gTest (gBin neD (gSl (gVar 0) (gPart (gBin addD (gVar 1) (gCon (.int 2)))) (gPart (gBin addD (gVar 1) (gCon (.int 3))))) (gCon (.str [40])))) (gTest (gBin notInD (gSl (gVar 0) (gPart (gBin addD (gVar 1) (gCon (.int 1)))) (gPart (gBin addD (gVar 1) (gCon (.int 2))))) (gFn dTup (gCons (gCon (.str [82])) (gCons (gCon (.str [83])) (gCons (gCon (.str [65])) (gNil))))))))) (sRet (gCon .non)) (sNil))
    (sSeq (sSet 2 (gBM isTx findM (gVar 0) (gCons (gCon (.str [41])) (gCons (gVar 1) (gNil)))))
    (sRet (gIf (gTest (gBin ltD (gVar 2) (gCon (.int 0)))) (gCon .non) (gFn dTup (gCons (gBin ixD (gVar 0) (gBin addD (gVar 1) (gCon (.int 1)))) (gCons (gSl (gVar 0) (gPart (gBin addD (gVar 1) (gCon (.int 3)))) (gPart (gVar 2))) (gCons (gBin addD (gVar 2) (gCon (.int 1))) (gNil))))))))
noncomputable def f_asked_at : List D → MH → Out D := fnD 3 b_asked_at
noncomputable def b_register_told : GS := sSeq (sSet 2 (gIf (gTest (gBin eqD (gSl (gVar 0) (gNoPart) (gPart (gCon (.int 1)))) (gCon (.str [43])))) (gSl (gVar 0) (gPart (gCon (.int 1))) (gNoPart)) (gVar 0)))
    (sSeq (sIf (gNot (gTest (gCall f_is_name (pD [.u 0, .m 0] [] [.int 1]) 1 0 (gCons (gVar 2) (gNil)) (gNil)))) (sRet (gCon .non)) (sNil))
    (sSeq (sIf (gTest (gBin eqD (gSl (gVar 0) (gNoPart) (gPart (gCon (.int 1)))) (gCon (.str [43])))) (sStore (gVar 1) (gVar 2) (gCall f_stepped (pD [.u 0] [] []) 1 0 (gCons (gGet (gVar 1) (gVar 2) (gCon (.tup [(D.int 0), (D.int 0), (D.str [49])]))) (gNil)) (gNil))) (sNil))
    (sSeq (sTg (.tp [3, 4, 5]) (gGet (gVar 1) (gVar 2) (gCon (.tup [(D.int 0), (D.int 0), (D.str [49])]))))
    (sRet (gCall f_shown (pD [.u 0, .u 1] [] []) 2 0 (gCons (gVar 3) (gCons (gVar 5) (gNil))) (gNil))))))
noncomputable def f_register_told : List D → MH → Out D := fnD 6 b_register_told
noncomputable def b_told_by : GS := sSeq (sIf (gTest (gBin eqD (gVar 0) (gCon (.str [82])))) (sRet (gCall f_register_told (pD [.u 0, .u 1] [] []) 2 0 (gCons (gVar 1) (gCons (gVar 2) (gNil))) (gNil))) (sNil))
    (sSeq (sIf (gTest (gBin eqD (gVar 0) (gCon (.str [83])))) (sRet (gIf (gTest (gCall f_is_name (pD [.u 0, .m 0] [] [.int 1]) 1 0 (gCons (gVar 1) (gNil)) (gNil))) (gGet (gVar 3) (gVar 1) (gCon (.str []))) (gCon .non))) (sNil))
    (sSeq (sIf (gOr (gTest (gBin neD (gFn lenF (gCons (gVar 1) (gNil))) (gCon (.int 1)))) (gTest (gBin notInD (gVar 1) (gCon (.str [48, 49, 50, 51, 52, 53, 54, 55, 56, 57]))))) (sRet (gCon .non)) (sNil))
    (sSeq (sSet 5 (gFn intF (gCons (gVar 1) (gNil))))
    (sSeq (sIf (gTest (gBin eqD (gVar 5) (gCon (.int 0)))) (sRet (gFn strF (gCons (gFn lenF (gCons (gVar 4) (gNil))) (gNil)))) (sNil))
    (sRet (gIf (gTest (gBin leD (gVar 5) (gFn lenF (gCons (gVar 4) (gNil))))) (gBin ixD (gVar 4) (gBin subD (gVar 5) (gCon (.int 1)))) (gCon (.str []))))))))
noncomputable def f_told_by : List D → MH → Out D := fnD 6 b_told_by
noncomputable def r1_put_in : GS := sRet (gFn dTup (gCons (gSl (gVar 5) (gNoPart) (gPart (gCon (.int 200)))) (gCons (gVar 4) (gNil))))
noncomputable def r2_put_in : GS := sAug 6 iaddD (gVar 9)
noncomputable def r3_put_in : GS := sSeq (sAug 5 iaddD (gSl (gVar 0) (gPart (gVar 6)) (gPart (gBin addD (gVar 6) (gVar 9)))))
    (r2_put_in)
noncomputable def r4_put_in : GS := sSet 6 (gBin ixD (gVar 7) (gCon (.int 2)))
noncomputable def r5_put_in : GS := sIf (gTest (gBin isD (gVar 8) (gCon .non))) (sSeq (sSet 9 (gIf (gTest (gBin eqD (gSl (gVar 0) (gPart (gVar 6)) (gPart (gBin addD (gVar 6) (gCon (.int 2))))) (gCon (.str [92, 92])))) (gCon (.int 2)) (gCon (.int 1))))
    (r3_put_in)) (sSeq (sAug 5 iaddD (gVar 8))
    (r4_put_in))
noncomputable def r6_put_in : GS := sSeq (sSet 8 (gIf (gTest (gBin isD (gVar 7) (gCon .non))) (gCon .non) (gCall f_told_by (pD [.u 0, .u 1, .u 2, .u 3, .u 4] [] []) 5 0 (gCons (gBin ixD (gVar 7) (gCon (.int 0))) (gCons (gBin ixD (gVar 7) (gCon (.int 1))) (gCons (gVar 4) (gCons (gVar 2) (gCons (gVar 3) (gNil)))))) (gNil))))
    (r5_put_in)
noncomputable def l7_put_in : GS := sSeq (sSet 7 (gCall f_asked_at (pD [.u 0, .u 1] [] []) 2 0 (gCons (gVar 0) (gCons (gVar 6) (gNil))) (gNil)))
    (r6_put_in)
noncomputable def r8_put_in : GS := sSeq (sWhile (gTest (gBin ltD (gVar 6) (gFn lenF (gCons (gVar 0) (gNil))))) l7_put_in)
    (r1_put_in)
noncomputable def r9_put_in : GS := sSeq (sSet 6 (gCon (.int 0)))
    (r8_put_in)
noncomputable def r10_put_in : GS := sSeq (sSet 5 (gCon (.str [])))
    (r9_put_in)
noncomputable def b_put_in : GS := sSeq (sSet 4 (gFn dctF (gCons (gVar 1) (gNil))))
    (r10_put_in)
noncomputable def f_put_in : List D → MH → Out D := fnD 10 b_put_in
def b_v_law_pen : GS := sRet (gFn dLst (gCons (gSl (gVar 0) (gNoPart) (gPart (gCon (.int 63)))) (gCons (gCon (.int 0)) (gCons (gCon (.int 0)) (gNil)))))
noncomputable def f_v_law_pen : List D → MH → Out D := fnD 1 b_v_law_pen
def b_v_law_draw : GS := sSeq (sIf (gTest (gBin gtD (gBin ixD (gVar 0) (gCon (.int 2))) (gCon (.int 0)))) (sSeq (sSet 6 (gBin modD (gBin ixD (gVar 0) (gCon (.int 2))) (gVar 1)))
    (sSeq (sStore (gVar 0) (gCon (.int 2)) (gBin divD (gBin ixD (gVar 0) (gCon (.int 2))) (gVar 1)))
    (sRet (gVar 6)))) (sNil))
    (sSeq (sSet 2 (gBin ixD (gVar 0) (gCon (.int 1))))
    (sSeq (sStore (gVar 0) (gCon (.int 1)) (gBin addD (gVar 2) (gCon (.int 1))))
    (sSeq (sSet 3 (gBin addD (gBin mulS (gCon (.int 99013)) (gVar 2)) (gCon (.int 101))))
    (sSeq (sIf (gTest (gBin gtD (gFn lenF (gCons (gBin ixD (gVar 0) (gCon (.int 0))) (gNil))) (gCon (.int 0)))) (sSet 3 (gBin ixD (gBin ixD (gVar 0) (gCon (.int 0))) (gBin modD (gVar 2) (gFn lenF (gCons (gBin ixD (gVar 0) (gCon (.int 0))) (gNil)))))) (sNil))
    (sSeq (sIf (gAnd (gTest (gBin ltD (gVar 2) (gFn lenF (gCons (gBin ixD (gVar 0) (gCon (.int 0))) (gNil))))) (gTest (gBin geD (gFn absF (gCons (gVar 3) (gNil))) (gBin powD (gCon (.int 10)) (gCon (.int 18)))))) (sSeq (sStore (gVar 0) (gCon (.int 2)) (gBin divD (gFn absF (gCons (gVar 3) (gNil))) (gVar 1)))
    (sRet (gBin modD (gFn absF (gCons (gVar 3) (gNil))) (gVar 1)))) (sNil))
    (sSeq (sSet 4 (gBin addD (gBin addD (gBin addD (gBin modD (gVar 3) (gCon (.int 2147483497))) (gBin mulS (gBin mulS (gCon (.int 10037)) (gVar 2)) (gVar 2))) (gBin mulS (gCon (.int 70003)) (gVar 2))) (gCon (.int 103))))
    (sSeq (sSet 5 (gBin modD (gBin powD (gVar 4) (gCon (.int 3))) (gCon (.int 2147483629))))
    (sSeq (sSet 5 (gBin modD (gBin mulS (gBin powD (gBin addD (gBin addD (gVar 5) (gBin mulS (gCon (.int 43)) (gVar 2))) (gCon (.int 29))) (gCon (.int 2))) (gBin addD (gBin modD (gVar 5) (gCon (.int 40009))) (gCon (.int 31)))) (gCon (.int 2147483549))))
    (sRet (gBin modD (gBin divD (gVar 5) (gCon (.int 64))) (gVar 1)))))))))))
noncomputable def f_v_law_draw : List D → MH → Out D := fnD 7 b_v_law_draw
noncomputable def b_v_law_pick : GS := sRet (gBin ixD (gVar 1) (gCall f_v_law_draw (pD [.u 0, .u 1] [] []) 2 0 (gCons (gVar 0) (gCons (gFn lenF (gCons (gVar 1) (gNil))) (gNil))) (gNil)))
noncomputable def f_v_law_pick : List D → MH → Out D := fnD 2 b_v_law_pick
def b_v_law_form : GS := sSeq (sTg (.tp [1, 2, 3]) (gVar 0))
    (sSeq (sIf (gAnd (gTest (gBin eqD (gVar 3) (gCon (.str [97])))) (gTest (gChain leD leD (gCon (.int 1)) (gVar 1) (gCon (.int 26))))) (sRet (gBin ixD (gCon (.str [97, 98, 99, 100, 101, 102, 103, 104, 105, 106, 107, 108, 109, 110, 111, 112, 113, 114, 115, 116, 117, 118, 119, 120, 121, 122])) (gBin subD (gVar 1) (gCon (.int 1))))) (sNil))
    (sSeq (sIf (gAnd (gTest (gBin eqD (gVar 3) (gCon (.str [105])))) (gTest (gChain leD leD (gCon (.int 1)) (gVar 1) (gCon (.int 39))))) (sRet (gBin addD (gBin mulS (gCon (.str [120])) (gBin divD (gVar 1) (gCon (.int 10)))) (gBin ixD (gFn dLst (gCons (gCon (.str [])) (gCons (gCon (.str [105])) (gCons (gCon (.str [105, 105])) (gCons (gCon (.str [105, 105, 105])) (gCons (gCon (.str [105, 118])) (gCons (gCon (.str [118])) (gCons (gCon (.str [118, 105])) (gCons (gCon (.str [118, 105, 105])) (gCons (gCon (.str [118, 105, 105, 105])) (gCons (gCon (.str [105, 120])) (gNil)))))))))))) (gBin modD (gVar 1) (gCon (.int 10)))))) (sNil))
    (sSeq (sIf (gAnd (gTest (gBin eqD (gVar 3) (gCon (.str [48, 49])))) (gTest (gBin ltD (gFn absF (gCons (gVar 1) (gNil))) (gCon (.int 10))))) (sRet (gBin addD (gBin addD (gBin mulS (gCon (.str [45])) (gFn intF (gCons (gBin ltD (gVar 1) (gCon (.int 0))) (gNil)))) (gCon (.str [48]))) (gFn strF (gCons (gFn absF (gCons (gVar 1) (gNil))) (gNil))))) (sNil))
    (sRet (gFn strF (gCons (gVar 1) (gNil)))))))
noncomputable def f_v_law_form : List D → MH → Out D := fnD 4 b_v_law_form
def b_v_law_kept_in : GS := sRet (gFn maxF (gCons (gUn negD (gCon (.int 9999))) (gCons (gFn minF (gCons (gCon (.int 9999)) (gCons (gVar 0) (gNil)))) (gNil))))
noncomputable def f_v_law_kept_in : List D → MH → Out D := fnD 1 b_v_law_kept_in
noncomputable def r1_v_law_walk_right : GS := sRet (gAndV (gBin eqD (gBin ixD (gVar 5) (gCon (.str [111, 116, 104, 101, 114]))) (gVar 4)) (gBin eqD (gVar 8) (gFn dTup (gCons (gCall f_v_law_form (pD [.u 0] [] []) 1 0 (gCons (gFn dTup (gCons (gVar 0) (gCons (gVar 1) (gCons (gVar 2) (gNil))))) (gNil)) (gNil)) (gCons (gVar 10) (gNil))))))
noncomputable def r2_v_law_walk_right : GS := sSeq (sSet 8 (gCall f_put_in (pD [.u 0, .u 1, .u 2, .u 3] [] []) 4 0 (gCons (gCon (.str [92, 82, 40, 97, 41])) (gCons (gVar 10) (gCons (gDict0) (gCons (gFn dTup (gNil)) (gNil))))) (gNil)))
    (r1_v_law_walk_right)
noncomputable def r3_v_law_walk_right : GS := sSeq (sIf (gOr (gTest (gBin neD (gVar 9) (gBM isTx joinM (gCon (.str [32])) (gCons (gVar 6) (gNil))))) (gOr (gTest (gBin neD (gBin ixD (gVar 10) (gCon (.str [97]))) (gFn dTup (gCons (gVar 0) (gCons (gVar 1) (gCons (gVar 2) (gNil))))))) (gTest (gBin neD (gBin ixD (gVar 10) (gCon (.str [111, 116, 104, 101, 114]))) (gVar 4))))) (sRet (gCon (.bl false))) (sNil))
    (r2_v_law_walk_right)
noncomputable def r4_v_law_walk_right : GS := sSeq (sExp (gBM isLs appM (gVar 6) (gCons (gCall f_v_law_form (pD [.u 0] [] []) 1 0 (gCons (gVar 4) (gNil)) (gNil)) (gNil))))
    (r3_v_law_walk_right)
noncomputable def r5_v_law_walk_right : GS := sExp (gBM isLs appM (gVar 6) (gCons (gCall f_v_law_form (pD [.u 0] [] []) 1 0 (gCons (gFn dTup (gCons (gVar 0) (gCons (gVar 1) (gCons (gVar 2) (gNil))))) (gNil)) (gNil)) (gNil)))
noncomputable def l6_v_law_walk_right : GS := sSeq (sSet 0 (gCall f_v_law_kept_in (pD [.u 0] [] []) 1 0 (gCons (gBin addD (gVar 0) (gVar 1)) (gNil)) (gNil)))
    (r5_v_law_walk_right)
noncomputable def r7_v_law_walk_right : GS := sSeq (sFor (gRng1 (gCons (gVar 3) (gNil))) (.nm 7) l6_v_law_walk_right)
    (r4_v_law_walk_right)
noncomputable def r8_v_law_walk_right : GS := sSeq (sSet 6 (gFn dLst (gCons (gCall f_v_law_form (pD [.u 0] [] []) 1 0 (gCons (gFn dTup (gCons (gVar 0) (gCons (gVar 1) (gCons (gVar 2) (gNil))))) (gNil)) (gNil)) (gNil))))
    (r7_v_law_walk_right)
noncomputable def r9_v_law_walk_right : GS := sSeq (sTg (.tp [9, 10]) (gCall f_put_in (pD [.u 0, .u 1, .u 2, .u 3] [] []) 4 0 (gCons (gBin addD (gBin addD (gCon (.str [92, 82, 40, 97, 41])) (gBin mulS (gCon (.str [32, 92, 82, 40, 43, 97, 41])) (gVar 3))) (gCon (.str [32, 92, 82, 40, 111, 116, 104, 101, 114, 41]))) (gCons (gVar 5) (gCons (gDict0) (gCons (gFn dTup (gNil)) (gNil))))) (gNil)))
    (r8_v_law_walk_right)
noncomputable def b_v_law_walk_right : GS := sSeq (sSet 5 (gDisp [(gCon (.str [97]), gFn dTup (gCons (gVar 0) (gCons (gVar 1) (gCons (gVar 2) (gNil))))), (gCon (.str [111, 116, 104, 101, 114]), gVar 4)]))
    (r9_v_law_walk_right)
noncomputable def f_v_law_walk_right : List D → MH → Out D := fnD 11 b_v_law_walk_right
noncomputable def r1_law : GS := sRet (gAndV (gBin eqD (gBin ixD (gCall f_put_in (pD [.u 0, .u 1, .u 2, .u 3] [] []) 4 0 (gCons (gCon (.str [60, 92, 82, 40, 110, 111, 110, 101, 41, 62])) (gCons (gDict0) (gCons (gDict0) (gCons (gFn dTup (gNil)) (gNil))))) (gNil)) (gCon (.int 0))) (gCon (.str [60, 48, 62]))) (gBin eqD (gBin ixD (gCall f_put_in (pD [.u 0, .u 1, .u 2, .u 3] [] []) 4 0 (gCons (gCon (.str [92, 82, 40, 43, 110, 111, 110, 101, 41])) (gCons (gDict0) (gCons (gDict0) (gCons (gFn dTup (gNil)) (gNil))))) (gNil)) (gCon (.int 0))) (gCon (.str [48]))))
noncomputable def r2_law : GS := sIf (gNot (gTest (gCall f_v_law_walk_right (pD [.u 0, .u 1, .u 2, .u 3, .u 4] [] []) 5 0 (gCons (gVar 5) (gCons (gVar 6) (gCons (gCall f_v_law_pick (pD [.u 0, .u 1] [] []) 2 0 (gCons (gVar 1) (gCons (gVar 2) (gNil))) (gNil)) (gCons (gCall f_v_law_draw (pD [.u 0, .u 1] [] []) 2 0 (gCons (gVar 1) (gCons (gCon (.int 6)) (gNil))) (gNil)) (gCons (gVar 7) (gNil)))))) (gNil)))) (sRet (gCon (.bl false))) (sNil)
noncomputable def r3_law : GS := sSeq (sSet 7 (gFn dTup (gCons (gCall f_v_law_draw (pD [.u 0, .u 1] [] []) 2 0 (gCons (gVar 1) (gCons (gCon (.int 30)) (gNil))) (gNil)) (gCons (gCon (.int 2)) (gCons (gCall f_v_law_pick (pD [.u 0, .u 1] [] []) 2 0 (gCons (gVar 1) (gCons (gVar 2) (gNil))) (gNil)) (gNil))))))
    (r2_law)
noncomputable def r4_law : GS := sSeq (sSet 6 (gCall f_v_law_pick (pD [.u 0, .u 1] [] []) 2 0 (gCons (gVar 1) (gCons (gFn dLst (gCons (gCon (.int 0)) (gCons (gCon (.int 1)) (gCons (gUn negD (gCon (.int 1))) (gCons (gCon (.int 7)) (gCons (gUn negD (gCon (.int 7))) (gCons (gCon (.int 9999)) (gCons (gUn negD (gCon (.int 9999))) (gCons (gBin subD (gCall f_v_law_draw (pD [.u 0, .u 1] [] []) 2 0 (gCons (gVar 1) (gCons (gCon (.int 9)) (gNil))) (gNil)) (gCon (.int 4))) (gNil)))))))))) (gNil))) (gNil)))
    (r3_law)
noncomputable def l5_law : GS := sSeq (sSet 5 (gCall f_v_law_pick (pD [.u 0, .u 1] [] []) 2 0 (gCons (gVar 1) (gCons (gFn dLst (gCons (gBin subD (gCall f_v_law_draw (pD [.u 0, .u 1] [] []) 2 0 (gCons (gVar 1) (gCons (gCon (.int 40)) (gNil))) (gNil)) (gCon (.int 5))) (gCons (gBin addD (gCon (.int 9990)) (gCall f_v_law_draw (pD [.u 0, .u 1] [] []) 2 0 (gCons (gVar 1) (gCons (gCon (.int 10)) (gNil))) (gNil))) (gCons (gBin subD (gUn negD (gCon (.int 9990))) (gCall f_v_law_draw (pD [.u 0, .u 1] [] []) 2 0 (gCons (gVar 1) (gCons (gCon (.int 10)) (gNil))) (gNil))) (gCons (gCon (.int 0)) (gNil)))))) (gNil))) (gNil)))
    (r4_law)
noncomputable def r6_law : GS := sSeq (sFor (gRng1 (gCons (gCon (.int 8)) (gNil))) (.nm 4) l5_law)
    (r1_law)
noncomputable def r7_law : GS := sIf (gOr (gTest (gBin neD (gFn reprF (gCons (gVar 8) (gNil))) (gFn reprF (gCons (gCall f_v_law_form (pD [.u 0] [] []) 1 0 (gCons (gFn dTup (gCons (gVar 5) (gCons (gCon (.int 3)) (gCons (gVar 3) (gNil))))) (gNil)) (gNil)) (gNil))))) (gTest (gBin neD (gFn reprF (gCons (gVar 9) (gNil))) (gFn reprF (gCons (gDisp [(gCon (.str [97, 98]), gFn dTup (gCons (gVar 5) (gCons (gCon (.int 3)) (gCons (gVar 3) (gNil)))))]) (gNil)))))) (sRet (gCon (.bl false))) (sNil)
noncomputable def l8_law : GS := sSeq (sTg (.tp [8, 9]) (gCall f_put_in (pD [.u 0, .u 1, .u 2, .u 3] [] []) 4 0 (gCons (gCon (.str [92, 82, 40, 97, 98, 41])) (gCons (gDisp [(gCon (.str [97, 98]), gFn dTup (gCons (gVar 5) (gCons (gCon (.int 3)) (gCons (gVar 3) (gNil)))))]) (gCons (gDict0) (gCons (gFn dTup (gNil)) (gNil))))) (gNil)))
    (r7_law)
noncomputable def l9_law : GS := sFor (gIter (gFn dLst (gCons (gUn negD (gCon (.int 9999))) (gCons (gUn negD (gCon (.int 10))) (gCons (gUn negD (gCon (.int 9))) (gCons (gUn negD (gCon (.int 1))) (gCons (gCon (.int 0)) (gCons (gCon (.int 1)) (gCons (gCon (.int 4)) (gCons (gCon (.int 9)) (gCons (gCon (.int 10)) (gCons (gCon (.int 14)) (gCons (gCon (.int 26)) (gCons (gCon (.int 27)) (gCons (gCon (.int 39)) (gCons (gCon (.int 40)) (gCons (gCon (.int 99)) (gCons (gCon (.int 100)) (gCons (gCon (.int 9999)) (gCons (gBin subD (gCall f_v_law_draw (pD [.u 0, .u 1] [] []) 2 0 (gCons (gVar 1) (gCons (gCon (.int 60)) (gNil))) (gNil)) (gCon (.int 9))) (gNil))))))))))))))))))))) (.nm 5) l8_law
noncomputable def r10_law : GS := sSeq (sFor (gIter (gVar 2)) (.nm 3) l9_law)
    (r6_law)
noncomputable def r11_law : GS := sSeq (sSet 2 (gFn dLst (gCons (gCon (.str [49])) (gCons (gCon (.str [48, 49])) (gCons (gCon (.str [97])) (gCons (gCon (.str [105])) (gNil)))))))
    (r10_law)
noncomputable def b_law : GS := sSeq (sSet 1 (gCall f_v_law_pen (pD [.u 0] [] []) 1 0 (gCons (gVar 0) (gNil)) (gNil)))
    (r11_law)
noncomputable def f_law : List D → MH → Out D := fnD 10 b_law
theorem kb_roman_0 {k : Kx} {fd : FuncData}  (F : FunD k.K d_roman.name d_roman.qual d_roman.params d_roman.body d_roman.scope (d_roman.dvs k.K) (d_roman.kws k.K) (He.fAd k.K d_roman.at_) fd) :
    KB k fd ["value"] 1 [] (pD [.u 0] [] []) := by
  refine kb_of F 1 [] [] [.u 0] [] [] (fun q hq => nomatch hq) (fun _ _ => rfl) (fun _ _ => rfl) rfl rfl ?_
  intro dV kV doc pm an cdv ct us mv ws h1 h2 h3
  match us, h1, mv, h2, ws, h3 with
  | [_], _, [], _, [], _ =>
    refine ⟨fun _ e => ?_, fun h => absurd rfl h⟩
    subst e
    exact ⟨fun _ => rfl, fun D e => by subst e; exact rfl⟩
theorem kb_clamped_0 {k : Kx} {fd : FuncData}  (F : FunD k.K d_clamped.name d_clamped.qual d_clamped.params d_clamped.body d_clamped.scope (d_clamped.dvs k.K) (d_clamped.kws k.K) (He.fAd k.K d_clamped.at_) fd) :
    KB k fd ["value", "least", "most"] 1 [] (pD [.u 0, .m 0, .m 1] [] [.int (-9999), .int 9999]) := by
  refine kb_of F 1 [] [("least", V.int (-9999)), ("most", V.int 9999)] [.u 0, .m 0, .m 1] [] [.int (-9999), .int 9999] (fun q hq => match q, hq with | _, (List.Mem.head _) => (List.Mem.head _) | _, (List.Mem.tail _ (List.Mem.head _)) => (List.Mem.tail _ (List.Mem.head _))) (fun _ _ => rfl) (fun _ _ => ⟨_, _, rfl, rfl, ⟨_, _, rfl, rfl, rfl⟩⟩) rfl rfl ?_
  intro dV kV doc pm an cdv ct us mv ws h1 h2 h3
  match us, h1, mv, h2, ws, h3 with
  | [_], _, [_, _], _, [], _ =>
    refine ⟨fun _ e => ?_, fun h => absurd rfl h⟩
    subst e
    exact ⟨fun h => (nomatch h), fun D e => by subst e; exact ⟨_, _, _, _, _, _, rfl, rfl, ⟨_, _, _, _, _, _, rfl, rfl, rfl⟩⟩⟩
theorem kb_shown_0 {k : Kx} {fd : FuncData}  (F : FunD k.K d_shown.name d_shown.qual d_shown.params d_shown.body d_shown.scope (d_shown.dvs k.K) (d_shown.kws k.K) (He.fAd k.K d_shown.at_) fd) :
    KB k fd ["value", "form"] 2 [] (pD [.u 0, .u 1] [] []) := by
  refine kb_of F 2 [] [] [.u 0, .u 1] [] [] (fun q hq => nomatch hq) (fun _ _ => rfl) (fun _ _ => rfl) rfl rfl ?_
  intro dV kV doc pm an cdv ct us mv ws h1 h2 h3
  match us, h1, mv, h2, ws, h3 with
  | [_, _], _, [], _, [], _ =>
    refine ⟨fun _ e => ?_, fun h => absurd rfl h⟩
    subst e
    exact ⟨fun _ => rfl, fun D e => by subst e; exact rfl⟩
theorem kb_stepped_0 {k : Kx} {fd : FuncData}  (F : FunD k.K d_stepped.name d_stepped.qual d_stepped.params d_stepped.body d_stepped.scope (d_stepped.dvs k.K) (d_stepped.kws k.K) (He.fAd k.K d_stepped.at_) fd) :
    KB k fd ["told"] 1 [] (pD [.u 0] [] []) := by
  refine kb_of F 1 [] [] [.u 0] [] [] (fun q hq => nomatch hq) (fun _ _ => rfl) (fun _ _ => rfl) rfl rfl ?_
  intro dV kV doc pm an cdv ct us mv ws h1 h2 h3
  match us, h1, mv, h2, ws, h3 with
  | [_], _, [], _, [], _ =>
    refine ⟨fun _ e => ?_, fun h => absurd rfl h⟩
    subst e
    exact ⟨fun _ => rfl, fun D e => by subst e; exact rfl⟩
theorem kb_is_name_0 {k : Kx} {fd : FuncData}  (F : FunD k.K d_is_name.name d_is_name.qual d_is_name.params d_is_name.body d_is_name.scope (d_is_name.dvs k.K) (d_is_name.kws k.K) (He.fAd k.K d_is_name.at_) fd) :
    KB k fd ["thing", "least"] 1 [] (pD [.u 0, .m 0] [] [.int 1]) := by
  refine kb_of F 1 [] [("least", V.int 1)] [.u 0, .m 0] [] [.int 1] (fun q hq => match q, hq with | _, (List.Mem.head _) => (List.Mem.head _)) (fun _ _ => rfl) (fun _ _ => ⟨_, _, rfl, rfl, rfl⟩) rfl rfl ?_
  intro dV kV doc pm an cdv ct us mv ws h1 h2 h3
  match us, h1, mv, h2, ws, h3 with
  | [_], _, [_], _, [], _ =>
    refine ⟨fun _ e => ?_, fun h => absurd rfl h⟩
    subst e
    exact ⟨fun h => (nomatch h), fun D e => by subst e; exact ⟨_, _, _, _, _, _, rfl, rfl, rfl⟩⟩
theorem kb_register_told_0 {k : Kx} {fd : FuncData}  (F : FunD k.K d_register_told.name d_register_told.qual d_register_told.params d_register_told.body d_register_told.scope (d_register_told.dvs k.K) (d_register_told.kws k.K) (He.fAd k.K d_register_told.at_) fd) :
    KB k fd ["inner", "registers"] 2 [] (pD [.u 0, .u 1] [] []) := by
  refine kb_of F 2 [] [] [.u 0, .u 1] [] [] (fun q hq => nomatch hq) (fun _ _ => rfl) (fun _ _ => rfl) rfl rfl ?_
  intro dV kV doc pm an cdv ct us mv ws h1 h2 h3
  match us, h1, mv, h2, ws, h3 with
  | [_, _], _, [], _, [], _ =>
    refine ⟨fun _ e => ?_, fun h => absurd rfl h⟩
    subst e
    exact ⟨fun _ => rfl, fun D e => by subst e; exact rfl⟩
theorem kb_told_by_0 {k : Kx} {fd : FuncData}  (F : FunD k.K d_told_by.name d_told_by.qual d_told_by.params d_told_by.body d_told_by.scope (d_told_by.dvs k.K) (d_told_by.kws k.K) (He.fAd k.K d_told_by.at_) fd) :
    KB k fd ["letter", "inner", "registers", "strings", "args"] 5 [] (pD [.u 0, .u 1, .u 2, .u 3, .u 4] [] []) := by
  refine kb_of F 5 [] [] [.u 0, .u 1, .u 2, .u 3, .u 4] [] [] (fun q hq => nomatch hq) (fun _ _ => rfl) (fun _ _ => rfl) rfl rfl ?_
  intro dV kV doc pm an cdv ct us mv ws h1 h2 h3
  match us, h1, mv, h2, ws, h3 with
  | [_, _, _, _, _], _, [], _, [], _ =>
    refine ⟨fun _ e => ?_, fun h => absurd rfl h⟩
    subst e
    exact ⟨fun _ => rfl, fun D e => by subst e; exact rfl⟩
theorem kb_asked_at_0 {k : Kx} {fd : FuncData}  (F : FunD k.K d_asked_at.name d_asked_at.qual d_asked_at.params d_asked_at.body d_asked_at.scope (d_asked_at.dvs k.K) (d_asked_at.kws k.K) (He.fAd k.K d_asked_at.at_) fd) :
    KB k fd ["line", "at"] 2 [] (pD [.u 0, .u 1] [] []) := by
  refine kb_of F 2 [] [] [.u 0, .u 1] [] [] (fun q hq => nomatch hq) (fun _ _ => rfl) (fun _ _ => rfl) rfl rfl ?_
  intro dV kV doc pm an cdv ct us mv ws h1 h2 h3
  match us, h1, mv, h2, ws, h3 with
  | [_, _], _, [], _, [], _ =>
    refine ⟨fun _ e => ?_, fun h => absurd rfl h⟩
    subst e
    exact ⟨fun _ => rfl, fun D e => by subst e; exact rfl⟩
theorem kb_v_law_draw_0 {k : Kx} {fd : FuncData}  (F : FunD k.K d_v_law_draw.name d_v_law_draw.qual d_v_law_draw.params d_v_law_draw.body d_v_law_draw.scope (d_v_law_draw.dvs k.K) (d_v_law_draw.kws k.K) (He.fAd k.K d_v_law_draw.at_) fd) :
    KB k fd ["_law_pen_here", "_law_many"] 2 [] (pD [.u 0, .u 1] [] []) := by
  refine kb_of F 2 [] [] [.u 0, .u 1] [] [] (fun q hq => nomatch hq) (fun _ _ => rfl) (fun _ _ => rfl) rfl rfl ?_
  intro dV kV doc pm an cdv ct us mv ws h1 h2 h3
  match us, h1, mv, h2, ws, h3 with
  | [_, _], _, [], _, [], _ =>
    refine ⟨fun _ e => ?_, fun h => absurd rfl h⟩
    subst e
    exact ⟨fun _ => rfl, fun D e => by subst e; exact rfl⟩
theorem kb_v_law_form_0 {k : Kx} {fd : FuncData}  (F : FunD k.K d_v_law_form.name d_v_law_form.qual d_v_law_form.params d_v_law_form.body d_v_law_form.scope (d_v_law_form.dvs k.K) (d_v_law_form.kws k.K) (He.fAd k.K d_v_law_form.at_) fd) :
    KB k fd ["_law_told"] 1 [] (pD [.u 0] [] []) := by
  refine kb_of F 1 [] [] [.u 0] [] [] (fun q hq => nomatch hq) (fun _ _ => rfl) (fun _ _ => rfl) rfl rfl ?_
  intro dV kV doc pm an cdv ct us mv ws h1 h2 h3
  match us, h1, mv, h2, ws, h3 with
  | [_], _, [], _, [], _ =>
    refine ⟨fun _ e => ?_, fun h => absurd rfl h⟩
    subst e
    exact ⟨fun _ => rfl, fun D e => by subst e; exact rfl⟩
theorem kb_put_in_0 {k : Kx} {fd : FuncData}  (F : FunD k.K d_put_in.name d_put_in.qual d_put_in.params d_put_in.body d_put_in.scope (d_put_in.dvs k.K) (d_put_in.kws k.K) (He.fAd k.K d_put_in.at_) fd) :
    KB k fd ["line", "registers", "strings", "args"] 4 [] (pD [.u 0, .u 1, .u 2, .u 3] [] []) := by
  refine kb_of F 4 [] [] [.u 0, .u 1, .u 2, .u 3] [] [] (fun q hq => nomatch hq) (fun _ _ => rfl) (fun _ _ => rfl) rfl rfl ?_
  intro dV kV doc pm an cdv ct us mv ws h1 h2 h3
  match us, h1, mv, h2, ws, h3 with
  | [_, _, _, _], _, [], _, [], _ =>
    refine ⟨fun _ e => ?_, fun h => absurd rfl h⟩
    subst e
    exact ⟨fun _ => rfl, fun D e => by subst e; exact rfl⟩
theorem kb_v_law_kept_in_0 {k : Kx} {fd : FuncData}  (F : FunD k.K d_v_law_kept_in.name d_v_law_kept_in.qual d_v_law_kept_in.params d_v_law_kept_in.body d_v_law_kept_in.scope (d_v_law_kept_in.dvs k.K) (d_v_law_kept_in.kws k.K) (He.fAd k.K d_v_law_kept_in.at_) fd) :
    KB k fd ["_law_value"] 1 [] (pD [.u 0] [] []) := by
  refine kb_of F 1 [] [] [.u 0] [] [] (fun q hq => nomatch hq) (fun _ _ => rfl) (fun _ _ => rfl) rfl rfl ?_
  intro dV kV doc pm an cdv ct us mv ws h1 h2 h3
  match us, h1, mv, h2, ws, h3 with
  | [_], _, [], _, [], _ =>
    refine ⟨fun _ e => ?_, fun h => absurd rfl h⟩
    subst e
    exact ⟨fun _ => rfl, fun D e => by subst e; exact rfl⟩
theorem kb_v_law_walk_right_0 {k : Kx} {fd : FuncData}  (F : FunD k.K d_v_law_walk_right.name d_v_law_walk_right.qual d_v_law_walk_right.params d_v_law_walk_right.body d_v_law_walk_right.scope (d_v_law_walk_right.dvs k.K) (d_v_law_walk_right.kws k.K) (He.fAd k.K d_v_law_walk_right.at_) fd) :
    KB k fd ["_law_value", "_law_step", "_law_form_here", "_law_many", "_law_other"] 5 [] (pD [.u 0, .u 1, .u 2, .u 3, .u 4] [] []) := by
  refine kb_of F 5 [] [] [.u 0, .u 1, .u 2, .u 3, .u 4] [] [] (fun q hq => nomatch hq) (fun _ _ => rfl) (fun _ _ => rfl) rfl rfl ?_
  intro dV kV doc pm an cdv ct us mv ws h1 h2 h3
  match us, h1, mv, h2, ws, h3 with
  | [_, _, _, _, _], _, [], _, [], _ =>
    refine ⟨fun _ e => ?_, fun h => absurd rfl h⟩
    subst e
    exact ⟨fun _ => rfl, fun D e => by subst e; exact rfl⟩
theorem kb_v_law_pick_0 {k : Kx} {fd : FuncData}  (F : FunD k.K d_v_law_pick.name d_v_law_pick.qual d_v_law_pick.params d_v_law_pick.body d_v_law_pick.scope (d_v_law_pick.dvs k.K) (d_v_law_pick.kws k.K) (He.fAd k.K d_v_law_pick.at_) fd) :
    KB k fd ["_law_pen_here", "_law_some"] 2 [] (pD [.u 0, .u 1] [] []) := by
  refine kb_of F 2 [] [] [.u 0, .u 1] [] [] (fun q hq => nomatch hq) (fun _ _ => rfl) (fun _ _ => rfl) rfl rfl ?_
  intro dV kV doc pm an cdv ct us mv ws h1 h2 h3
  match us, h1, mv, h2, ws, h3 with
  | [_, _], _, [], _, [], _ =>
    refine ⟨fun _ e => ?_, fun h => absurd rfl h⟩
    subst e
    exact ⟨fun _ => rfl, fun D e => by subst e; exact rfl⟩
theorem kb_v_law_pen_0 {k : Kx} {fd : FuncData}  (F : FunD k.K d_v_law_pen.name d_v_law_pen.qual d_v_law_pen.params d_v_law_pen.body d_v_law_pen.scope (d_v_law_pen.dvs k.K) (d_v_law_pen.kws k.K) (He.fAd k.K d_v_law_pen.at_) fd) :
    KB k fd ["_law_script"] 1 [] (pD [.u 0] [] []) := by
  refine kb_of F 1 [] [] [.u 0] [] [] (fun q hq => nomatch hq) (fun _ _ => rfl) (fun _ _ => rfl) rfl rfl ?_
  intro dV kV doc pm an cdv ct us mv ws h1 h2 h3
  match us, h1, mv, h2, ws, h3 with
  | [_], _, [], _, [], _ =>
    refine ⟨fun _ e => ?_, fun h => absurd rfl h⟩
    subst e
    exact ⟨fun _ => rfl, fun D e => by subst e; exact rfl⟩
section
variable {P : Program} {w : World} {mg : Str → Option Value} {base : Heap} {k : Kx}
set_option maxHeartbeats 4000000
theorem sc_clamped : FnScope ["value", "least", "most"] ["value", "least", "most"] d_clamped.scope := ⟨rfl, rfl, rfl, by decide +kernel, rfl, by decide +kernel, by decide +kernel⟩
theorem ok_clamped (T : Tx k mg) {fd : FuncData} (F : FunD k.K d_clamped.name d_clamped.qual d_clamped.params d_clamped.body d_clamped.scope (d_clamped.dvs k.K) (d_clamped.kws k.K) (He.fAd k.K d_clamped.at_) fd)  : Df P w mg base k 1 d_clamped ["value", "least", "most"] f_clamped := by
  refine @df_of P w mg base k 0 d_clamped ["value", "least", "most"] ["value", "least", "most"] b_clamped fd F sc_clamped fun cdv A0 outer s H E A => ?_
  exact ss_one (ss_ret (se_cb (pe_callB (cr_maxF A) (by rfl) T.b_max (by decide +kernel) (sa_cons (se_var 1) (sa_cons (se_cb (pe_callB (cr_minF A) (by rfl) T.b_min (by decide +kernel) (sa_cons (se_var 2) (sa_cons (se_var 0) (sa_nil))))) (sa_nil))))))
theorem sc_roman : FnScope ["value", "found", "size", "text"] ["value"] d_roman.scope := ⟨rfl, rfl, rfl, by decide +kernel, rfl, by decide +kernel, by decide +kernel⟩
theorem ok_roman (T : Tx k mg) {fd : FuncData} (F : FunD k.K d_roman.name d_roman.qual d_roman.params d_roman.body d_roman.scope (d_roman.dvs k.K) (d_roman.kws k.K) (He.fAd k.K d_roman.at_) fd)  : Df P w mg base k 1 d_roman ["value"] f_roman := by
  refine @df_of P w mg base k 0 d_roman ["value"] ["value", "found", "size", "text"] b_roman fd F sc_roman fun cdv A0 outer s H E A => ?_
  exact ss_cons (ss_set 1 (se_str []) A.nd)
    (ss_cons (ss_for A.kk A.po A.calm (si_any A.kk (T.c_ROMAN (by rfl))) (sg_tp A.calm (sgs_cons (sg_nm 2 A.nd) (sgs_cons (sg_nm 3 A.nd) (sgs_nil)))) (ss_one (ss_while A.po (st_cmp (or_ge) (se_var 0) (se_var 2)) (ss_cons (ss_aug 1 or_iadd (se_var 3) A.nd)
    (ss_one (ss_aug 0 or_isub (se_var 2) A.nd))))))
    (ss_one (ss_ret (se_var 1))))
theorem sc_shown : FnScope ["value", "form"] ["value", "form"] d_shown.scope := ⟨rfl, rfl, rfl, by decide +kernel, rfl, by decide +kernel, by decide +kernel⟩
theorem ok_shown (T : Tx k mg) {fd : FuncData} (F : FunD k.K d_shown.name d_shown.qual d_shown.params d_shown.body d_shown.scope (d_shown.dvs k.K) (d_shown.kws k.K) (He.fAd k.K d_shown.at_) fd) (I_roman : Df P w mg base k 1 d_roman ["value"] f_roman) : Df P w mg base k 2 d_shown ["value", "form"] f_shown := by
  obtain ⟨fd_roman, G_roman, D_roman⟩ := I_roman.ex
  refine @df_of P w mg base k 1 d_shown ["value", "form"] ["value", "form"] b_shown fd F sc_shown fun cdv A0 outer s H E A => ?_
  exact ss_cons (ss_if (st_w (sw_and (st_cmp (or_eq A) (se_var 1) (se_str [97])) (sw_and1 (st_chain (or_le) (or_le) (se_int) (se_var 0) (se_cb (pe_callB (cr_len A) (by rfl) T.b_len (by decide +kernel) (sa_cons (T.c_LETTERS (by rfl)) (sa_nil)))))))) (ss_one (ss_ret (se_ix A (T.c_LETTERS (by rfl)) (se_bin (or_sub) (se_var 0) (se_int))))) (ss_nil))
    (ss_cons (ss_if (st_w (sw_and (st_cmp (or_eq A) (se_var 1) (se_str [105])) (sw_and1 (st_chain (or_le) (or_le) (se_int) (se_var 0) (T.c_MOST_ROMAN (by rfl)))))) (ss_one (ss_ret (se_call A (G_roman.mono (by decide)) (by rfl) T.g_roman D_roman.kp (kb_roman_0 D_roman) (sa_cons (se_var 0) (sa_nil)) (sk_nil)))) (ss_nil))
    (ss_cons (ss_if (st_w (sw_and (st_cmp (or_eq A) (se_var 1) (se_str [48, 49])) (sw_and1 (st_chain (or_lt) (or_lt) (se_un ur_neg (se_int)) (se_var 0) (se_int))))) (ss_one (ss_ret (se_bin (or_add A) (se_bin (or_add A) (se_if (st_cmp (or_lt) (se_var 0) (se_int)) (se_str [45]) (se_str [])) (se_str [48])) (se_cb (pe_callTy (cr_str) (by rfl) T.b_str (by decide +kernel) (sa_cons (se_cb (pe_callB (cr_abs) (by rfl) T.b_abs (by decide +kernel) (sa_cons (se_var 0) (sa_nil)))) (sa_nil))))))) (ss_nil))
    (ss_one (ss_ret (se_cb (pe_callTy (cr_str) (by rfl) T.b_str (by decide +kernel) (sa_cons (se_var 0) (sa_nil))))))))
theorem sc_stepped : FnScope ["told", "value", "step", "form"] ["told"] d_stepped.scope := ⟨rfl, rfl, rfl, by decide +kernel, rfl, by decide +kernel, by decide +kernel⟩
theorem ok_stepped (T : Tx k mg) {fd : FuncData} (F : FunD k.K d_stepped.name d_stepped.qual d_stepped.params d_stepped.body d_stepped.scope (d_stepped.dvs k.K) (d_stepped.kws k.K) (He.fAd k.K d_stepped.at_) fd) (I_clamped : Df P w mg base k 1 d_clamped ["value", "least", "most"] f_clamped) : Df P w mg base k 2 d_stepped ["told"] f_stepped := by
  obtain ⟨fd_clamped, G_clamped, D_clamped⟩ := I_clamped.ex
  refine @df_of P w mg base k 1 d_stepped ["told"] ["told", "value", "step", "form"] b_stepped fd F sc_stepped fun cdv A0 outer s H E A => ?_
  exact ss_cons (ss_tg A.kk (ps_asg (se_var 0) (sg_tp A.calm (sgs_cons (sg_nm 1 A.nd) (sgs_cons (sg_nm 2 A.nd) (sgs_cons (sg_nm 3 A.nd) (sgs_nil)))))))
    (ss_one (ss_ret (se_tup (sa_cons (se_call A (G_clamped.mono (by decide)) (by rfl) T.g_clamped D_clamped.kp (kb_clamped_0 D_clamped) (sa_cons (se_bin (or_add A) (se_var 1) (se_var 2)) (sa_nil)) (sk_nil)) (sa_cons (se_var 2) (sa_cons (se_var 3) (sa_nil)))))))
theorem sc_is_name : FnScope ["thing", "least", "sign"] ["thing", "least"] d_is_name.scope := ⟨rfl, rfl, rfl, by decide +kernel, rfl, by decide +kernel, by decide +kernel⟩
theorem ok_is_name (T : Tx k mg) {fd : FuncData} (F : FunD k.K d_is_name.name d_is_name.qual d_is_name.params d_is_name.body d_is_name.scope (d_is_name.dvs k.K) (d_is_name.kws k.K) (He.fAd k.K d_is_name.at_) fd)  : Df P w mg base k 1 d_is_name ["thing", "least"] f_is_name := by
  refine @df_of P w mg base k 0 d_is_name ["thing", "least"] ["thing", "least", "sign"] b_is_name fd F sc_is_name fun cdv A0 outer s H E A => ?_
  exact ss_one (ss_ret (se_and (se_cb (pe_callB (cr_isi A) (by rfl) T.b_isinstance (by decide +kernel) (sa_cons (se_var 0) (sa_cons (se_ty 0 (pe_bltn (by rfl) T.b_str (by decide +kernel) rfl)) (sa_nil))))) (se_and (se_chain (or_le) (or_le) (se_var 1) (se_cb (pe_callB (cr_len A) (by rfl) T.b_len (by decide +kernel) (sa_cons (se_var 0) (sa_nil)))) (se_int)) (se_one (se_cb (pe_callB (cr_allF A) (by rfl) T.b_all (by decide +kernel) (sa_cons (se_lc (vs := [2]) A.kk (by decide) (pe_lc (own := [("sign", 2)]) A.calm A.nd (si_any A.kk (se_var 0)) (blkOk_by (N := ["thing", "least", "sign"]) (sc := d_is_name.scope) (by decide +kernel)) (fun _ _ _ _ _ => (sg_nm 2 (A.blk _ _ _ _ _).nd)) (fun _ _ _ _ _ => sts_nil) (fun _ _ _ _ _ => se_cmp (or_in (A.blk _ _ _ _ _)) (se_var 2) (T.c_LETTERS (by rfl)) (by rfl)))) (sa_nil))))))))
theorem sc_asked_at : FnScope ["line", "at", "end"] ["line", "at"] d_asked_at.scope := ⟨rfl, rfl, rfl, by decide +kernel, rfl, by decide +kernel, by decide +kernel⟩
theorem ok_asked_at (T : Tx k mg) {fd : FuncData} (F : FunD k.K d_asked_at.name d_asked_at.qual d_asked_at.params d_asked_at.body d_asked_at.scope (d_asked_at.dvs k.K) (d_asked_at.kws k.K) (He.fAd k.K d_asked_at.at_) fd)  : Df P w mg base k 1 d_asked_at ["line", "at"] f_asked_at := by
  refine @df_of P w mg base k 0 d_asked_at ["line", "at"] ["line", "at", "end"] b_asked_at fd F sc_asked_at fun cdv A0 outer s H E A => ?_
  exact ss_cons (ss_if (st_w (sw_or (st_cmp (or_ne A) (se_sl A (se_var 0) (so_some (se_var 1)) (so_some (se_bin (or_add A) (se_var 1) (se_int)))) (se_str [92])) (sw_or (st_cmp (or_ne A) (se_sl A (se_var 0) (so_some (se_bin (or_add A) (se_var 1) (se_int))) (so_some (se_bin (or_add A) (se_var 1) (se_int)))) (se_str [40])) (sw_or1 (st_cmp (or_notin A) (se_sl A (se_var 0) (so_some (se_bin (or_add A) (se_var 1) (se_int))) (so_some (se_bin (or_add A) (se_var 1) (se_int)))) (se_tup (sa_cons (se_str [82]) (sa_cons (se_str [83]) (sa_cons (se_str [65]) (sa_nil))))) (by rfl)))))) (ss_one (ss_ret (se_non))) (ss_nil))
    (ss_cons (ss_set 2 (se_bmT (pe_bm PySem.F.plainAttrs_str PySem.F.slot_str_find PySem.F.type_str_find (mr_find) (se_var 0) (sa_cons (T.c_SHUT (by rfl)) (sa_cons (se_var 1) (sa_nil))))) A.nd)
    (ss_one (ss_ret (se_if (st_cmp (or_lt) (se_var 2) (se_int)) (se_non) (se_tup (sa_cons (se_ix A (se_var 0) (se_bin (or_add A) (se_var 1) (se_int))) (sa_cons (se_sl A (se_var 0) (so_some (se_bin (or_add A) (se_var 1) (se_int))) (so_some (se_var 2))) (sa_cons (se_bin (or_add A) (se_var 2) (se_int)) (sa_nil)))))))))
theorem sc_register_told : FnScope ["inner", "registers", "name", "value", "step", "form"] ["inner", "registers"] d_register_told.scope := ⟨rfl, rfl, rfl, by decide +kernel, rfl, by decide +kernel, by decide +kernel⟩
theorem ok_register_told (T : Tx k mg) {fd : FuncData} (F : FunD k.K d_register_told.name d_register_told.qual d_register_told.params d_register_told.body d_register_told.scope (d_register_told.dvs k.K) (d_register_told.kws k.K) (He.fAd k.K d_register_told.at_) fd) (I_is_name : Df P w mg base k 1 d_is_name ["thing", "least"] f_is_name) (I_shown : Df P w mg base k 2 d_shown ["value", "form"] f_shown) (I_stepped : Df P w mg base k 2 d_stepped ["told"] f_stepped) : Df P w mg base k 3 d_register_told ["inner", "registers"] f_register_told := by
  obtain ⟨fd_is_name, G_is_name, D_is_name⟩ := I_is_name.ex
  obtain ⟨fd_shown, G_shown, D_shown⟩ := I_shown.ex
  obtain ⟨fd_stepped, G_stepped, D_stepped⟩ := I_stepped.ex
  refine @df_of P w mg base k 2 d_register_told ["inner", "registers"] ["inner", "registers", "name", "value", "step", "form"] b_register_told fd F sc_register_told fun cdv A0 outer s H E A => ?_
  exact ss_cons (ss_set 2 (se_if (st_cmp (or_eq A) (se_sl A (se_var 0) (so_none) (so_some (se_int))) (se_str [43])) (se_sl A (se_var 0) (so_some (se_int)) (so_none)) (se_var 0)) A.nd)
    (ss_cons (ss_if (st_not (st_val (se_call A (G_is_name.mono (by decide)) (by rfl) T.g_is_name D_is_name.kp (kb_is_name_0 D_is_name) (sa_cons (se_var 2) (sa_nil)) (sk_nil)))) (ss_one (ss_ret (se_non))) (ss_nil))
    (ss_cons (ss_if (st_cmp (or_eq A) (se_sl A (se_var 0) (so_none) (so_some (se_int))) (se_str [43])) (ss_one (ss_store (ps_asg (se_call A (G_stepped.mono (by decide)) (by rfl) T.g_stepped D_stepped.kp (kb_stepped_0 D_stepped) (sa_cons (se_get2 (pe_dget2 (hu1 A) (se_var 1) (se_var 2) (T.c_FRESH (by rfl)) ⟨rfl, rfl, rfl, rfl⟩)) (sa_nil)) (sk_nil)) (pg_sub (se_var 1) (se_var 2) (ps_st A))))) (ss_nil))
    (ss_cons (ss_tg A.kk (ps_asg (se_get2 (pe_dget2 (hu1 A) (se_var 1) (se_var 2) (T.c_FRESH (by rfl)) ⟨rfl, rfl, rfl, rfl⟩)) (sg_tp A.calm (sgs_cons (sg_nm 3 A.nd) (sgs_cons (sg_nm 4 A.nd) (sgs_cons (sg_nm 5 A.nd) (sgs_nil)))))))
    (ss_one (ss_ret (se_call A (G_shown.mono (by decide)) (by rfl) T.g_shown D_shown.kp (kb_shown_0 D_shown) (sa_cons (se_var 3) (sa_cons (se_var 5) (sa_nil))) (sk_nil)))))))
theorem sc_told_by : FnScope ["letter", "inner", "registers", "strings", "args", "number"] ["letter", "inner", "registers", "strings", "args"] d_told_by.scope := ⟨rfl, rfl, rfl, by decide +kernel, rfl, by decide +kernel, by decide +kernel⟩
theorem ok_told_by (T : Tx k mg) {fd : FuncData} (F : FunD k.K d_told_by.name d_told_by.qual d_told_by.params d_told_by.body d_told_by.scope (d_told_by.dvs k.K) (d_told_by.kws k.K) (He.fAd k.K d_told_by.at_) fd) (I_is_name : Df P w mg base k 1 d_is_name ["thing", "least"] f_is_name) (I_register_told : Df P w mg base k 3 d_register_told ["inner", "registers"] f_register_told) : Df P w mg base k 4 d_told_by ["letter", "inner", "registers", "strings", "args"] f_told_by := by
  obtain ⟨fd_is_name, G_is_name, D_is_name⟩ := I_is_name.ex
  obtain ⟨fd_register_told, G_register_told, D_register_told⟩ := I_register_told.ex
  refine @df_of P w mg base k 3 d_told_by ["letter", "inner", "registers", "strings", "args"] ["letter", "inner", "registers", "strings", "args", "number"] b_told_by fd F sc_told_by fun cdv A0 outer s H E A => ?_
  exact ss_cons (ss_if (st_cmp (or_eq A) (se_var 0) (se_str [82])) (ss_one (ss_ret (se_call A (G_register_told.mono (by decide)) (by rfl) T.g_register_told D_register_told.kp (kb_register_told_0 D_register_told) (sa_cons (se_var 1) (sa_cons (se_var 2) (sa_nil))) (sk_nil)))) (ss_nil))
    (ss_cons (ss_if (st_cmp (or_eq A) (se_var 0) (se_str [83])) (ss_one (ss_ret (se_if (st_val (se_call A (G_is_name.mono (by decide)) (by rfl) T.g_is_name D_is_name.kp (kb_is_name_0 D_is_name) (sa_cons (se_var 1) (sa_nil)) (sk_nil))) (se_get2 (pe_dget2 (hu1 A) (se_var 3) (se_var 1) (se_str []) ⟨rfl, rfl, rfl, rfl⟩)) (se_non)))) (ss_nil))
    (ss_cons (ss_if (st_w (sw_or (st_cmp (or_ne A) (se_cb (pe_callB (cr_len A) (by rfl) T.b_len (by decide +kernel) (sa_cons (se_var 1) (sa_nil)))) (se_int)) (sw_or1 (st_cmp (or_notin A) (se_var 1) (se_str [48, 49, 50, 51, 52, 53, 54, 55, 56, 57]) (by rfl))))) (ss_one (ss_ret (se_non))) (ss_nil))
    (ss_cons (ss_set 5 (se_cb (pe_callTy (cr_int) (by rfl) T.b_int (by decide +kernel) (sa_cons (se_var 1) (sa_nil)))) A.nd)
    (ss_cons (ss_if (st_cmp (or_eq A) (se_var 5) (se_int)) (ss_one (ss_ret (se_cb (pe_callTy (cr_str) (by rfl) T.b_str (by decide +kernel) (sa_cons (se_cb (pe_callB (cr_len A) (by rfl) T.b_len (by decide +kernel) (sa_cons (se_var 4) (sa_nil)))) (sa_nil)))))) (ss_nil))
    (ss_one (ss_ret (se_if (st_cmp (or_le) (se_var 5) (se_cb (pe_callB (cr_len A) (by rfl) T.b_len (by decide +kernel) (sa_cons (se_var 4) (sa_nil))))) (se_ix A (se_var 4) (se_bin (or_sub) (se_var 5) (se_int))) (se_str []))))))))
theorem sc_put_in : FnScope ["line", "registers", "strings", "args", "behind", "found", "at", "asked", "told", "size"] ["line", "registers", "strings", "args"] d_put_in.scope := ⟨rfl, rfl, rfl, by decide +kernel, rfl, by decide +kernel, by decide +kernel⟩
theorem ok_put_in (T : Tx k mg) {fd : FuncData} (F : FunD k.K d_put_in.name d_put_in.qual d_put_in.params d_put_in.body d_put_in.scope (d_put_in.dvs k.K) (d_put_in.kws k.K) (He.fAd k.K d_put_in.at_) fd) (I_asked_at : Df P w mg base k 1 d_asked_at ["line", "at"] f_asked_at) (I_told_by : Df P w mg base k 4 d_told_by ["letter", "inner", "registers", "strings", "args"] f_told_by) : Df P w mg base k 5 d_put_in ["line", "registers", "strings", "args"] f_put_in := by
  obtain ⟨fd_asked_at, G_asked_at, D_asked_at⟩ := I_asked_at.ex
  obtain ⟨fd_told_by, G_told_by, D_told_by⟩ := I_told_by.ex
  refine @df_of P w mg base k 4 d_put_in ["line", "registers", "strings", "args"] ["line", "registers", "strings", "args", "behind", "found", "at", "asked", "told", "size"] b_put_in fd F sc_put_in fun cdv A0 outer s H E A => ?_
  exact ss_cons (ss_set 4 (se_cb (pe_callTy (cr_dct) (by rfl) T.b_dict (by decide +kernel) (sa_cons (se_var 1) (sa_nil)))) A.nd)
    (ss_cons (ss_set 5 (se_str []) A.nd)
    (ss_cons (ss_set 6 (se_int) A.nd)
    (ss_cons (ss_while A.po (st_cmp (or_lt) (se_var 6) (se_cb (pe_callB (cr_len A) (by rfl) T.b_len (by decide +kernel) (sa_cons (se_var 0) (sa_nil))))) (ss_cons (ss_set 7 (se_call A (G_asked_at.mono (by decide)) (by rfl) T.g_asked_at D_asked_at.kp (kb_asked_at_0 D_asked_at) (sa_cons (se_var 0) (sa_cons (se_var 6) (sa_nil))) (sk_nil)) A.nd)
    (ss_cons (ss_set 8 (se_if (st_cmp (or_is) (se_var 7) (se_non)) (se_non) (se_call A (G_told_by.mono (by decide)) (by rfl) T.g_told_by D_told_by.kp (kb_told_by_0 D_told_by) (sa_cons (se_ix A (se_var 7) (se_int)) (sa_cons (se_ix A (se_var 7) (se_int)) (sa_cons (se_var 4) (sa_cons (se_var 2) (sa_cons (se_var 3) (sa_nil)))))) (sk_nil))) A.nd)
    (ss_one (ss_if (st_cmp (or_is) (se_var 8) (se_non)) (ss_cons (ss_set 9 (se_if (st_cmp (or_eq A) (se_sl A (se_var 0) (so_some (se_var 6)) (so_some (se_bin (or_add A) (se_var 6) (se_int)))) (se_str [92, 92])) (se_int) (se_int)) A.nd)
    (ss_cons (ss_aug 5 or_iadd (se_sl A (se_var 0) (so_some (se_var 6)) (so_some (se_bin (or_add A) (se_var 6) (se_var 9)))) A.nd)
    (ss_one (ss_aug 6 or_iadd (se_var 9) A.nd)))) (ss_cons (ss_aug 5 or_iadd (se_var 8) A.nd)
    (ss_one (ss_set 6 (se_ix A (se_var 7) (se_int)) A.nd))))))))
    (ss_one (ss_ret (se_tup (sa_cons (se_sl A (se_var 5) (so_none) (so_some (T.c_MOST_SIGNS (by rfl)))) (sa_cons (se_var 4) (sa_nil)))))))))
theorem sc_v_law_pen : FnScope ["_law_script"] ["_law_script"] d_v_law_pen.scope := ⟨rfl, rfl, rfl, by decide +kernel, rfl, by decide +kernel, by decide +kernel⟩
theorem ok_v_law_pen (T : Tx k mg) {fd : FuncData} (F : FunD k.K d_v_law_pen.name d_v_law_pen.qual d_v_law_pen.params d_v_law_pen.body d_v_law_pen.scope (d_v_law_pen.dvs k.K) (d_v_law_pen.kws k.K) (He.fAd k.K d_v_law_pen.at_) fd)  : Df P w mg base k 1 d_v_law_pen ["_law_script"] f_v_law_pen := by
  refine @df_of P w mg base k 0 d_v_law_pen ["_law_script"] ["_law_script"] b_v_law_pen fd F sc_v_law_pen fun cdv A0 outer s H E A => ?_
  exact ss_one (ss_ret (se_lst (sa_cons (se_sl A (se_var 0) (so_none) (so_some (se_int))) (sa_cons (se_int) (sa_cons (se_int) (sa_nil))))))
theorem sc_v_law_draw : FnScope ["_law_pen_here", "_law_many", "_law_here", "_law_cell", "_law_low", "_law_stirred", "_law_digit"] ["_law_pen_here", "_law_many"] d_v_law_draw.scope := ⟨rfl, rfl, rfl, by decide +kernel, rfl, by decide +kernel, by decide +kernel⟩
theorem ok_v_law_draw (T : Tx k mg) {fd : FuncData} (F : FunD k.K d_v_law_draw.name d_v_law_draw.qual d_v_law_draw.params d_v_law_draw.body d_v_law_draw.scope (d_v_law_draw.dvs k.K) (d_v_law_draw.kws k.K) (He.fAd k.K d_v_law_draw.at_) fd)  : Df P w mg base k 1 d_v_law_draw ["_law_pen_here", "_law_many"] f_v_law_draw := by
  refine @df_of P w mg base k 0 d_v_law_draw ["_law_pen_here", "_law_many"] ["_law_pen_here", "_law_many", "_law_here", "_law_cell", "_law_low", "_law_stirred", "_law_digit"] b_v_law_draw fd F sc_v_law_draw fun cdv A0 outer s H E A => ?_
  exact ss_cons (ss_if (st_cmp (or_gt) (se_ix A (se_var 0) (se_int)) (se_int)) (ss_cons (ss_set 6 (se_bin (or_mod) (se_ix A (se_var 0) (se_int)) (se_var 1)) A.nd)
    (ss_cons (ss_store (ps_asg (se_bin (or_div) (se_ix A (se_var 0) (se_int)) (se_var 1)) (pg_sub (se_var 0) (se_int) (ps_st A))))
    (ss_one (ss_ret (se_var 6))))) (ss_nil))
    (ss_cons (ss_set 2 (se_ix A (se_var 0) (se_int)) A.nd)
    (ss_cons (ss_store (ps_asg (se_bin (or_add A) (se_var 2) (se_int)) (pg_sub (se_var 0) (se_int) (ps_st A))))
    (ss_cons (ss_set 3 (se_bin (or_add A) (se_bin (or_mulS A) (se_int) (se_var 2)) (se_int)) A.nd)
    (ss_cons (ss_if (st_cmp (or_gt) (se_cb (pe_callB (cr_len A) (by rfl) T.b_len (by decide +kernel) (sa_cons (se_ix A (se_var 0) (se_int)) (sa_nil)))) (se_int)) (ss_one (ss_set 3 (se_ix A (se_ix A (se_var 0) (se_int)) (se_bin (or_mod) (se_var 2) (se_cb (pe_callB (cr_len A) (by rfl) T.b_len (by decide +kernel) (sa_cons (se_ix A (se_var 0) (se_int)) (sa_nil)))))) A.nd)) (ss_nil))
    (ss_cons (ss_if (st_w (sw_and (st_cmp (or_lt) (se_var 2) (se_cb (pe_callB (cr_len A) (by rfl) T.b_len (by decide +kernel) (sa_cons (se_ix A (se_var 0) (se_int)) (sa_nil))))) (sw_and1 (st_cmp (or_ge) (se_cb (pe_callB (cr_abs) (by rfl) T.b_abs (by decide +kernel) (sa_cons (se_var 3) (sa_nil)))) (se_bin (or_pow) (se_int) (se_int)))))) (ss_cons (ss_store (ps_asg (se_bin (or_div) (se_cb (pe_callB (cr_abs) (by rfl) T.b_abs (by decide +kernel) (sa_cons (se_var 3) (sa_nil)))) (se_var 1)) (pg_sub (se_var 0) (se_int) (ps_st A))))
    (ss_one (ss_ret (se_bin (or_mod) (se_cb (pe_callB (cr_abs) (by rfl) T.b_abs (by decide +kernel) (sa_cons (se_var 3) (sa_nil)))) (se_var 1))))) (ss_nil))
    (ss_cons (ss_set 4 (se_bin (or_add A) (se_bin (or_add A) (se_bin (or_add A) (se_bin (or_mod) (se_var 3) (se_int)) (se_bin (or_mulS A) (se_bin (or_mulS A) (se_int) (se_var 2)) (se_var 2))) (se_bin (or_mulS A) (se_int) (se_var 2))) (se_int)) A.nd)
    (ss_cons (ss_set 5 (se_bin (or_mod) (se_bin (or_pow) (se_var 4) (se_int)) (se_int)) A.nd)
    (ss_cons (ss_set 5 (se_bin (or_mod) (se_bin (or_mulS A) (se_bin (or_pow) (se_bin (or_add A) (se_bin (or_add A) (se_var 5) (se_bin (or_mulS A) (se_int) (se_var 2))) (se_int)) (se_int)) (se_bin (or_add A) (se_bin (or_mod) (se_var 5) (se_int)) (se_int))) (se_int)) A.nd)
    (ss_one (ss_ret (se_bin (or_mod) (se_bin (or_div) (se_var 5) (se_int)) (se_var 1))))))))))))
theorem sc_v_law_pick : FnScope ["_law_pen_here", "_law_some"] ["_law_pen_here", "_law_some"] d_v_law_pick.scope := ⟨rfl, rfl, rfl, by decide +kernel, rfl, by decide +kernel, by decide +kernel⟩
theorem ok_v_law_pick (T : Tx k mg) {fd : FuncData} (F : FunD k.K d_v_law_pick.name d_v_law_pick.qual d_v_law_pick.params d_v_law_pick.body d_v_law_pick.scope (d_v_law_pick.dvs k.K) (d_v_law_pick.kws k.K) (He.fAd k.K d_v_law_pick.at_) fd) (I_v_law_draw : Df P w mg base k 1 d_v_law_draw ["_law_pen_here", "_law_many"] f_v_law_draw) : Df P w mg base k 2 d_v_law_pick ["_law_pen_here", "_law_some"] f_v_law_pick := by
  obtain ⟨fd_v_law_draw, G_v_law_draw, D_v_law_draw⟩ := I_v_law_draw.ex
  refine @df_of P w mg base k 1 d_v_law_pick ["_law_pen_here", "_law_some"] ["_law_pen_here", "_law_some"] b_v_law_pick fd F sc_v_law_pick fun cdv A0 outer s H E A => ?_
  exact ss_one (ss_ret (se_ix A (se_var 1) (se_call A (G_v_law_draw.mono (by decide)) (by rfl) T.g_v_law_draw D_v_law_draw.kp (kb_v_law_draw_0 D_v_law_draw) (sa_cons (se_var 0) (sa_cons (se_cb (pe_callB (cr_len A) (by rfl) T.b_len (by decide +kernel) (sa_cons (se_var 1) (sa_nil)))) (sa_nil))) (sk_nil))))
theorem sc_v_law_form : FnScope ["_law_told", "_law_value", "_law_step", "_law_form_here"] ["_law_told"] d_v_law_form.scope := ⟨rfl, rfl, rfl, by decide +kernel, rfl, by decide +kernel, by decide +kernel⟩
theorem ok_v_law_form (T : Tx k mg) {fd : FuncData} (F : FunD k.K d_v_law_form.name d_v_law_form.qual d_v_law_form.params d_v_law_form.body d_v_law_form.scope (d_v_law_form.dvs k.K) (d_v_law_form.kws k.K) (He.fAd k.K d_v_law_form.at_) fd)  : Df P w mg base k 1 d_v_law_form ["_law_told"] f_v_law_form := by
  refine @df_of P w mg base k 0 d_v_law_form ["_law_told"] ["_law_told", "_law_value", "_law_step", "_law_form_here"] b_v_law_form fd F sc_v_law_form fun cdv A0 outer s H E A => ?_
  exact ss_cons (ss_tg A.kk (ps_asg (se_var 0) (sg_tp A.calm (sgs_cons (sg_nm 1 A.nd) (sgs_cons (sg_nm 2 A.nd) (sgs_cons (sg_nm 3 A.nd) (sgs_nil)))))))
    (ss_cons (ss_if (st_w (sw_and (st_cmp (or_eq A) (se_var 3) (se_str [97])) (sw_and1 (st_chain (or_le) (or_le) (se_int) (se_var 1) (se_int))))) (ss_one (ss_ret (se_ix A (se_str [97, 98, 99, 100, 101, 102, 103, 104, 105, 106, 107, 108, 109, 110, 111, 112, 113, 114, 115, 116, 117, 118, 119, 120, 121, 122]) (se_bin (or_sub) (se_var 1) (se_int))))) (ss_nil))
    (ss_cons (ss_if (st_w (sw_and (st_cmp (or_eq A) (se_var 3) (se_str [105])) (sw_and1 (st_chain (or_le) (or_le) (se_int) (se_var 1) (se_int))))) (ss_one (ss_ret (se_bin (or_add A) (se_bin (or_mulS A) (se_str [120]) (se_bin (or_div) (se_var 1) (se_int))) (se_ix A (se_lst (sa_cons (se_str []) (sa_cons (se_str [105]) (sa_cons (se_str [105, 105]) (sa_cons (se_str [105, 105, 105]) (sa_cons (se_str [105, 118]) (sa_cons (se_str [118]) (sa_cons (se_str [118, 105]) (sa_cons (se_str [118, 105, 105]) (sa_cons (se_str [118, 105, 105, 105]) (sa_cons (se_str [105, 120]) (sa_nil)))))))))))) (se_bin (or_mod) (se_var 1) (se_int)))))) (ss_nil))
    (ss_cons (ss_if (st_w (sw_and (st_cmp (or_eq A) (se_var 3) (se_str [48, 49])) (sw_and1 (st_cmp (or_lt) (se_cb (pe_callB (cr_abs) (by rfl) T.b_abs (by decide +kernel) (sa_cons (se_var 1) (sa_nil)))) (se_int))))) (ss_one (ss_ret (se_bin (or_add A) (se_bin (or_add A) (se_bin (or_mulS A) (se_str [45]) (se_cb (pe_callTy (cr_int) (by rfl) T.b_int (by decide +kernel) (sa_cons (se_cmp (or_lt) (se_var 1) (se_int)) (sa_nil))))) (se_str [48])) (se_cb (pe_callTy (cr_str) (by rfl) T.b_str (by decide +kernel) (sa_cons (se_cb (pe_callB (cr_abs) (by rfl) T.b_abs (by decide +kernel) (sa_cons (se_var 1) (sa_nil)))) (sa_nil))))))) (ss_nil))
    (ss_one (ss_ret (se_cb (pe_callTy (cr_str) (by rfl) T.b_str (by decide +kernel) (sa_cons (se_var 1) (sa_nil)))))))))
theorem sc_v_law_kept_in : FnScope ["_law_value"] ["_law_value"] d_v_law_kept_in.scope := ⟨rfl, rfl, rfl, by decide +kernel, rfl, by decide +kernel, by decide +kernel⟩
theorem ok_v_law_kept_in (T : Tx k mg) {fd : FuncData} (F : FunD k.K d_v_law_kept_in.name d_v_law_kept_in.qual d_v_law_kept_in.params d_v_law_kept_in.body d_v_law_kept_in.scope (d_v_law_kept_in.dvs k.K) (d_v_law_kept_in.kws k.K) (He.fAd k.K d_v_law_kept_in.at_) fd)  : Df P w mg base k 1 d_v_law_kept_in ["_law_value"] f_v_law_kept_in := by
  refine @df_of P w mg base k 0 d_v_law_kept_in ["_law_value"] ["_law_value"] b_v_law_kept_in fd F sc_v_law_kept_in fun cdv A0 outer s H E A => ?_
  exact ss_one (ss_ret (se_cb (pe_callB (cr_maxF A) (by rfl) T.b_max (by decide +kernel) (sa_cons (se_un ur_neg (se_int)) (sa_cons (se_cb (pe_callB (cr_minF A) (by rfl) T.b_min (by decide +kernel) (sa_cons (se_int) (sa_cons (se_var 0) (sa_nil))))) (sa_nil))))))
theorem sc_v_law_walk_right : FnScope ["_law_value", "_law_step", "_law_form_here", "_law_many", "_law_other", "_law_known", "_law_due", "_law_k", "_law_again", "_law_text", "_law_found"] ["_law_value", "_law_step", "_law_form_here", "_law_many", "_law_other"] d_v_law_walk_right.scope := ⟨rfl, rfl, rfl, by decide +kernel, rfl, by decide +kernel, by decide +kernel⟩
theorem ok_v_law_walk_right (T : Tx k mg) {fd : FuncData} (F : FunD k.K d_v_law_walk_right.name d_v_law_walk_right.qual d_v_law_walk_right.params d_v_law_walk_right.body d_v_law_walk_right.scope (d_v_law_walk_right.dvs k.K) (d_v_law_walk_right.kws k.K) (He.fAd k.K d_v_law_walk_right.at_) fd) (I_v_law_form : Df P w mg base k 1 d_v_law_form ["_law_told"] f_v_law_form) (I_v_law_kept_in : Df P w mg base k 1 d_v_law_kept_in ["_law_value"] f_v_law_kept_in) (I_put_in : Df P w mg base k 5 d_put_in ["line", "registers", "strings", "args"] f_put_in) : Df P w mg base k 6 d_v_law_walk_right ["_law_value", "_law_step", "_law_form_here", "_law_many", "_law_other"] f_v_law_walk_right := by
  obtain ⟨fd_v_law_form, G_v_law_form, D_v_law_form⟩ := I_v_law_form.ex
  obtain ⟨fd_v_law_kept_in, G_v_law_kept_in, D_v_law_kept_in⟩ := I_v_law_kept_in.ex
  obtain ⟨fd_put_in, G_put_in, D_put_in⟩ := I_put_in.ex
  refine @df_of P w mg base k 5 d_v_law_walk_right ["_law_value", "_law_step", "_law_form_here", "_law_many", "_law_other"] ["_law_value", "_law_step", "_law_form_here", "_law_many", "_law_other", "_law_known", "_law_due", "_law_k", "_law_again", "_law_text", "_law_found"] b_v_law_walk_right fd F sc_v_law_walk_right fun cdv A0 outer s H E A => ?_
  exact ss_cons (ss_set 5 (se_disp (l := [(gCon (.str [97]), gFn dTup (gCons (gVar 0) (gCons (gVar 1) (gCons (gVar 2) (gNil))))), (gCon (.str [111, 116, 104, 101, 114]), gVar 4)]) (pe_disp (pps_cons (se_str [97]) (se_tup (sa_cons (se_var 0) (sa_cons (se_var 1) (sa_cons (se_var 2) (sa_nil))))) (pps_cons (se_str [111, 116, 104, 101, 114]) (se_var 4) (pps_nil))) (by rfl) (by rfl) (fun z => by cases z) (by decide))) A.nd)
    (ss_cons (ss_tg A.kk (ps_asg (se_call A (G_put_in.mono (by decide)) (by rfl) T.g_put_in D_put_in.kp (kb_put_in_0 D_put_in) (sa_cons (se_bin (or_add A) (se_bin (or_add A) (se_str [92, 82, 40, 97, 41]) (se_bin (or_mulS A) (se_str [32, 92, 82, 40, 43, 97, 41]) (se_var 3))) (se_str [32, 92, 82, 40, 111, 116, 104, 101, 114, 41])) (sa_cons (se_var 5) (sa_cons (se_dict0) (sa_cons (se_tup (sa_nil)) (sa_nil))))) (sk_nil)) (sg_tp A.calm (sgs_cons (sg_nm 9 A.nd) (sgs_cons (sg_nm 10 A.nd) (sgs_nil))))))
    (ss_cons (ss_set 6 (se_lst (sa_cons (se_call A (G_v_law_form.mono (by decide)) (by rfl) T.g_v_law_form D_v_law_form.kp (kb_v_law_form_0 D_v_law_form) (sa_cons (se_tup (sa_cons (se_var 0) (sa_cons (se_var 1) (sa_cons (se_var 2) (sa_nil))))) (sa_nil)) (sk_nil)) (sa_nil))) A.nd)
    (ss_cons (ss_for A.kk A.po A.calm (si_rng1 (pi_range1 (by rfl) T.b_range (sa_cons (se_var 3) (sa_nil)))) (sg_nm 7 A.nd) (ss_cons (ss_set 0 (se_call A (G_v_law_kept_in.mono (by decide)) (by rfl) T.g_v_law_kept_in D_v_law_kept_in.kp (kb_v_law_kept_in_0 D_v_law_kept_in) (sa_cons (se_bin (or_add A) (se_var 0) (se_var 1)) (sa_nil)) (sk_nil)) A.nd)
    (ss_one (ss_exp (se_bmL (pe_bm PySem.F.plainAttrs_list PySem.F.slot_list_append PySem.F.type_list_append (mr_app) (se_var 6) (sa_cons (se_call A (G_v_law_form.mono (by decide)) (by rfl) T.g_v_law_form D_v_law_form.kp (kb_v_law_form_0 D_v_law_form) (sa_cons (se_tup (sa_cons (se_var 0) (sa_cons (se_var 1) (sa_cons (se_var 2) (sa_nil))))) (sa_nil)) (sk_nil)) (sa_nil))))))))
    (ss_cons (ss_exp (se_bmL (pe_bm PySem.F.plainAttrs_list PySem.F.slot_list_append PySem.F.type_list_append (mr_app) (se_var 6) (sa_cons (se_call A (G_v_law_form.mono (by decide)) (by rfl) T.g_v_law_form D_v_law_form.kp (kb_v_law_form_0 D_v_law_form) (sa_cons (se_var 4) (sa_nil)) (sk_nil)) (sa_nil)))))
    (ss_cons (ss_if (st_w (sw_or (st_cmp (or_ne A) (se_var 9) (se_bmT (pe_bm PySem.F.plainAttrs_str PySem.F.slot_str_join PySem.F.type_str_join (mr_join A) (se_str [32]) (sa_cons (se_var 6) (sa_nil))))) (sw_or (st_cmp (or_ne A) (se_ix A (se_var 10) (se_str [97])) (se_tup (sa_cons (se_var 0) (sa_cons (se_var 1) (sa_cons (se_var 2) (sa_nil)))))) (sw_or1 (st_cmp (or_ne A) (se_ix A (se_var 10) (se_str [111, 116, 104, 101, 114])) (se_var 4)))))) (ss_one (ss_ret (se_bl))) (ss_nil))
    (ss_cons (ss_set 8 (se_call A (G_put_in.mono (by decide)) (by rfl) T.g_put_in D_put_in.kp (kb_put_in_0 D_put_in) (sa_cons (se_str [92, 82, 40, 97, 41]) (sa_cons (se_var 10) (sa_cons (se_dict0) (sa_cons (se_tup (sa_nil)) (sa_nil))))) (sk_nil)) A.nd)
    (ss_one (ss_ret (se_and (se_cmp (or_eq A) (se_ix A (se_var 5) (se_str [111, 116, 104, 101, 114])) (se_var 4)) (se_one (se_cmp (or_eq A) (se_var 8) (se_tup (sa_cons (se_call A (G_v_law_form.mono (by decide)) (by rfl) T.g_v_law_form D_v_law_form.kp (kb_v_law_form_0 D_v_law_form) (sa_cons (se_tup (sa_cons (se_var 0) (sa_cons (se_var 1) (sa_cons (se_var 2) (sa_nil))))) (sa_nil)) (sk_nil)) (sa_cons (se_var 10) (sa_nil)))))))))))))))
theorem sc_law : FnScope ["_law_script", "_law_pen_here", "_law_forms", "_law_form_here", "_law_nth", "_law_value", "_law_step", "_law_other", "_law_text", "_law_found"] ["_law_script"] d_law.scope := ⟨rfl, rfl, rfl, by decide +kernel, rfl, by decide +kernel, by decide +kernel⟩
theorem ok_law (T : Tx k mg) {fd : FuncData} (F : FunD k.K d_law.name d_law.qual d_law.params d_law.body d_law.scope (d_law.dvs k.K) (d_law.kws k.K) (He.fAd k.K d_law.at_) fd) (I_v_law_draw : Df P w mg base k 1 d_v_law_draw ["_law_pen_here", "_law_many"] f_v_law_draw) (I_v_law_form : Df P w mg base k 1 d_v_law_form ["_law_told"] f_v_law_form) (I_v_law_pen : Df P w mg base k 1 d_v_law_pen ["_law_script"] f_v_law_pen) (I_v_law_pick : Df P w mg base k 2 d_v_law_pick ["_law_pen_here", "_law_some"] f_v_law_pick) (I_v_law_walk_right : Df P w mg base k 6 d_v_law_walk_right ["_law_value", "_law_step", "_law_form_here", "_law_many", "_law_other"] f_v_law_walk_right) (I_put_in : Df P w mg base k 5 d_put_in ["line", "registers", "strings", "args"] f_put_in) : Df P w mg base k 7 d_law ["_law_script"] f_law := by
  obtain ⟨fd_v_law_draw, G_v_law_draw, D_v_law_draw⟩ := I_v_law_draw.ex
  obtain ⟨fd_v_law_form, G_v_law_form, D_v_law_form⟩ := I_v_law_form.ex
  obtain ⟨fd_v_law_pen, G_v_law_pen, D_v_law_pen⟩ := I_v_law_pen.ex
  obtain ⟨fd_v_law_pick, G_v_law_pick, D_v_law_pick⟩ := I_v_law_pick.ex
  obtain ⟨fd_v_law_walk_right, G_v_law_walk_right, D_v_law_walk_right⟩ := I_v_law_walk_right.ex
  obtain ⟨fd_put_in, G_put_in, D_put_in⟩ := I_put_in.ex
  refine @df_of P w mg base k 6 d_law ["_law_script"] ["_law_script", "_law_pen_here", "_law_forms", "_law_form_here", "_law_nth", "_law_value", "_law_step", "_law_other", "_law_text", "_law_found"] b_law fd F sc_law fun cdv A0 outer s H E A => ?_
  exact ss_cons (ss_set 1 (se_call A (G_v_law_pen.mono (by decide)) (by rfl) T.g_v_law_pen D_v_law_pen.kp (kb_v_law_pen_0 D_v_law_pen) (sa_cons (se_var 0) (sa_nil)) (sk_nil)) A.nd)
    (ss_cons (ss_set 2 (se_lst (sa_cons (se_str [49]) (sa_cons (se_str [48, 49]) (sa_cons (se_str [97]) (sa_cons (se_str [105]) (sa_nil)))))) A.nd)
    (ss_cons (ss_for A.kk A.po A.calm (si_any A.kk (se_var 2)) (sg_nm 3 A.nd) (ss_one (ss_for A.kk A.po A.calm (si_any A.kk (se_lst (sa_cons (se_un ur_neg (se_int)) (sa_cons (se_un ur_neg (se_int)) (sa_cons (se_un ur_neg (se_int)) (sa_cons (se_un ur_neg (se_int)) (sa_cons (se_int) (sa_cons (se_int) (sa_cons (se_int) (sa_cons (se_int) (sa_cons (se_int) (sa_cons (se_int) (sa_cons (se_int) (sa_cons (se_int) (sa_cons (se_int) (sa_cons (se_int) (sa_cons (se_int) (sa_cons (se_int) (sa_cons (se_int) (sa_cons (se_bin (or_sub) (se_call A (G_v_law_draw.mono (by decide)) (by rfl) T.g_v_law_draw D_v_law_draw.kp (kb_v_law_draw_0 D_v_law_draw) (sa_cons (se_var 1) (sa_cons (se_int) (sa_nil))) (sk_nil)) (se_int)) (sa_nil))))))))))))))))))))) (sg_nm 5 A.nd) (ss_cons (ss_tg A.kk (ps_asg (se_call A (G_put_in.mono (by decide)) (by rfl) T.g_put_in D_put_in.kp (kb_put_in_0 D_put_in) (sa_cons (se_str [92, 82, 40, 97, 98, 41]) (sa_cons (se_disp (l := [(gCon (.str [97, 98]), gFn dTup (gCons (gVar 5) (gCons (gCon (.int 3)) (gCons (gVar 3) (gNil)))))]) (pe_disp (pps_cons (se_str [97, 98]) (se_tup (sa_cons (se_var 5) (sa_cons (se_int) (sa_cons (se_var 3) (sa_nil))))) (pps_nil)) (by rfl) (by rfl) (fun z => by cases z) (by decide))) (sa_cons (se_dict0) (sa_cons (se_tup (sa_nil)) (sa_nil))))) (sk_nil)) (sg_tp A.calm (sgs_cons (sg_nm 8 A.nd) (sgs_cons (sg_nm 9 A.nd) (sgs_nil))))))
    (ss_one (ss_if (st_w (sw_or (st_cmp (or_ne A) (se_cb (pe_callB (cr_repr A) (by rfl) T.b_repr (by decide +kernel) (sa_cons (se_var 8) (sa_nil)))) (se_cb (pe_callB (cr_repr A) (by rfl) T.b_repr (by decide +kernel) (sa_cons (se_call A (G_v_law_form.mono (by decide)) (by rfl) T.g_v_law_form D_v_law_form.kp (kb_v_law_form_0 D_v_law_form) (sa_cons (se_tup (sa_cons (se_var 5) (sa_cons (se_int) (sa_cons (se_var 3) (sa_nil))))) (sa_nil)) (sk_nil)) (sa_nil))))) (sw_or1 (st_cmp (or_ne A) (se_cb (pe_callB (cr_repr A) (by rfl) T.b_repr (by decide +kernel) (sa_cons (se_var 9) (sa_nil)))) (se_cb (pe_callB (cr_repr A) (by rfl) T.b_repr (by decide +kernel) (sa_cons (se_disp (l := [(gCon (.str [97, 98]), gFn dTup (gCons (gVar 5) (gCons (gCon (.int 3)) (gCons (gVar 3) (gNil)))))]) (pe_disp (pps_cons (se_str [97, 98]) (se_tup (sa_cons (se_var 5) (sa_cons (se_int) (sa_cons (se_var 3) (sa_nil))))) (pps_nil)) (by rfl) (by rfl) (fun z => by cases z) (by decide))) (sa_nil)))))))) (ss_one (ss_ret (se_bl))) (ss_nil)))))))
    (ss_cons (ss_for A.kk A.po A.calm (si_rng1 (pi_range1 (by rfl) T.b_range (sa_cons (se_int) (sa_nil)))) (sg_nm 4 A.nd) (ss_cons (ss_set 5 (se_call A (G_v_law_pick.mono (by decide)) (by rfl) T.g_v_law_pick D_v_law_pick.kp (kb_v_law_pick_0 D_v_law_pick) (sa_cons (se_var 1) (sa_cons (se_lst (sa_cons (se_bin (or_sub) (se_call A (G_v_law_draw.mono (by decide)) (by rfl) T.g_v_law_draw D_v_law_draw.kp (kb_v_law_draw_0 D_v_law_draw) (sa_cons (se_var 1) (sa_cons (se_int) (sa_nil))) (sk_nil)) (se_int)) (sa_cons (se_bin (or_add A) (se_int) (se_call A (G_v_law_draw.mono (by decide)) (by rfl) T.g_v_law_draw D_v_law_draw.kp (kb_v_law_draw_0 D_v_law_draw) (sa_cons (se_var 1) (sa_cons (se_int) (sa_nil))) (sk_nil))) (sa_cons (se_bin (or_sub) (se_un ur_neg (se_int)) (se_call A (G_v_law_draw.mono (by decide)) (by rfl) T.g_v_law_draw D_v_law_draw.kp (kb_v_law_draw_0 D_v_law_draw) (sa_cons (se_var 1) (sa_cons (se_int) (sa_nil))) (sk_nil))) (sa_cons (se_int) (sa_nil)))))) (sa_nil))) (sk_nil)) A.nd)
    (ss_cons (ss_set 6 (se_call A (G_v_law_pick.mono (by decide)) (by rfl) T.g_v_law_pick D_v_law_pick.kp (kb_v_law_pick_0 D_v_law_pick) (sa_cons (se_var 1) (sa_cons (se_lst (sa_cons (se_int) (sa_cons (se_int) (sa_cons (se_un ur_neg (se_int)) (sa_cons (se_int) (sa_cons (se_un ur_neg (se_int)) (sa_cons (se_int) (sa_cons (se_un ur_neg (se_int)) (sa_cons (se_bin (or_sub) (se_call A (G_v_law_draw.mono (by decide)) (by rfl) T.g_v_law_draw D_v_law_draw.kp (kb_v_law_draw_0 D_v_law_draw) (sa_cons (se_var 1) (sa_cons (se_int) (sa_nil))) (sk_nil)) (se_int)) (sa_nil)))))))))) (sa_nil))) (sk_nil)) A.nd)
    (ss_cons (ss_set 7 (se_tup (sa_cons (se_call A (G_v_law_draw.mono (by decide)) (by rfl) T.g_v_law_draw D_v_law_draw.kp (kb_v_law_draw_0 D_v_law_draw) (sa_cons (se_var 1) (sa_cons (se_int) (sa_nil))) (sk_nil)) (sa_cons (se_int) (sa_cons (se_call A (G_v_law_pick.mono (by decide)) (by rfl) T.g_v_law_pick D_v_law_pick.kp (kb_v_law_pick_0 D_v_law_pick) (sa_cons (se_var 1) (sa_cons (se_var 2) (sa_nil))) (sk_nil)) (sa_nil))))) A.nd)
    (ss_one (ss_if (st_not (st_val (se_call A (G_v_law_walk_right.mono (by decide)) (by rfl) T.g_v_law_walk_right D_v_law_walk_right.kp (kb_v_law_walk_right_0 D_v_law_walk_right) (sa_cons (se_var 5) (sa_cons (se_var 6) (sa_cons (se_call A (G_v_law_pick.mono (by decide)) (by rfl) T.g_v_law_pick D_v_law_pick.kp (kb_v_law_pick_0 D_v_law_pick) (sa_cons (se_var 1) (sa_cons (se_var 2) (sa_nil))) (sk_nil)) (sa_cons (se_call A (G_v_law_draw.mono (by decide)) (by rfl) T.g_v_law_draw D_v_law_draw.kp (kb_v_law_draw_0 D_v_law_draw) (sa_cons (se_var 1) (sa_cons (se_int) (sa_nil))) (sk_nil)) (sa_cons (se_var 7) (sa_nil)))))) (sk_nil)))) (ss_one (ss_ret (se_bl))) (ss_nil)))))))
    (ss_one (ss_ret (se_and (se_cmp (or_eq A) (se_ix A (se_call A (G_put_in.mono (by decide)) (by rfl) T.g_put_in D_put_in.kp (kb_put_in_0 D_put_in) (sa_cons (se_str [60, 92, 82, 40, 110, 111, 110, 101, 41, 62]) (sa_cons (se_dict0) (sa_cons (se_dict0) (sa_cons (se_tup (sa_nil)) (sa_nil))))) (sk_nil)) (se_int)) (se_str [60, 48, 62])) (se_one (se_cmp (or_eq A) (se_ix A (se_call A (G_put_in.mono (by decide)) (by rfl) T.g_put_in D_put_in.kp (kb_put_in_0 D_put_in) (sa_cons (se_str [92, 82, 40, 43, 110, 111, 110, 101, 41]) (sa_cons (se_dict0) (sa_cons (se_dict0) (sa_cons (se_tup (sa_nil)) (sa_nil))))) (sk_nil)) (se_int)) (se_str [48])))))))))
end
def fcts : List He.Fa := [.glo "clamped", .glo "roman", .glo "shown", .glo "stepped", .glo "is_name", .glo "asked_at", .glo "register_told", .glo "told_by", .glo "put_in", .glo "_law_pen", .glo "_law_draw", .glo "_law_pick", .glo "_law_form", .glo "_law_kept_in", .glo "_law_walk_right", .glo "law", .free "abs", .free "all", .free "dict", .free "int", .free "isinstance", .free "len", .free "max", .free "min", .free "range", .free "repr", .free "str", .glo "FRESH", .str "LETTERS" "abcdefghijklmnopqrstuvwxyz", .int "MOST_ROMAN" 39, .int "MOST_SIGNS" 200, .glo "ROMAN", .str "SHUT" ")"]
def fn : List He.DefD := [d_clamped, d_roman, d_shown, d_stepped, d_is_name, d_asked_at, d_register_told, d_told_by, d_put_in, d_v_law_pen, d_v_law_draw, d_v_law_pick, d_v_law_form, d_v_law_kept_in, d_v_law_walk_right, d_law]
def ex (K : PySem.W.Frag) : Bool := Mn.tabB K (.tup [(D.int 0), (D.int 0), (D.str [49])]) (.ref (He.ga K "FRESH")) && Mn.tabB K (.tup [(D.tup [(D.int 10), (D.str [120])]), (D.tup [(D.int 9), (D.str [105, 120])]), (D.tup [(D.int 5), (D.str [118])]), (D.tup [(D.int 4), (D.str [105, 118])]), (D.tup [(D.int 1), (D.str [105])])]) (.ref (He.ga K "ROMAN"))
abbrev R : PySem.W.OpenRow := PySem.W.OpenLaw.row PySem.Challenge.rw_trapsetter_k16_registers_put_in
abbrev hk : PySem.W.Hook := He.hookX 5 fcts fn [] [] ex
def ob (s : PySem.W.SharedT) : He.AlX := He.obsX 5 fcts fn [] [] ex (HandSHeadRun.getT s)
theorem ob_eq (s : PySem.W.SharedT) : ob s = hk.obs s.abs := He.obsX_eq (HandSHeadRun.getT_eq s)
def loose : List Str := (["MOST", "ROMAN", "MOST_ROMAN", "LETTERS", "FRESH", "clamped", "roman", "shown", "stepped", "is_name", "MOST_SIGNS", "SHUT", "asked_at", "register_told", "told_by", "put_in", "_law_pen", "_law_draw", "_law_pick", "_law_form", "_law_kept_in", "_law_walk_right"] : List Str)
set_option maxHeartbeats 0 in
theorem run (w : World) : HandSHeadRun.RunEq R (PySem.W.view R.prog [26]) hk ob 2220 loose w := by
  intro os
  kernel_rfl
theorem facts {P : Program} {w : World} {K : PySem.W.Frag} {h : Heap} {mg : Str → Option Value} (X : K.In h) (G : h.Ns mainGlobals mg) (c : He.SaysD fcts fn K) (e : ex K = true) (base : Heap) : Df P w mg base (kx K) 7 d_law ["_law_script"] f_law := by
  have T : Tx (kx K) mg := ⟨He.glo_ok X G (c.fact 0 (f := .glo "clamped") rfl), He.glo_ok X G (c.fact 1 (f := .glo "roman") rfl), He.glo_ok X G (c.fact 2 (f := .glo "shown") rfl), He.glo_ok X G (c.fact 3 (f := .glo "stepped") rfl), He.glo_ok X G (c.fact 4 (f := .glo "is_name") rfl), He.glo_ok X G (c.fact 5 (f := .glo "asked_at") rfl), He.glo_ok X G (c.fact 6 (f := .glo "register_told") rfl), He.glo_ok X G (c.fact 7 (f := .glo "told_by") rfl), He.glo_ok X G (c.fact 8 (f := .glo "put_in") rfl), He.glo_ok X G (c.fact 9 (f := .glo "_law_pen") rfl), He.glo_ok X G (c.fact 10 (f := .glo "_law_draw") rfl), He.glo_ok X G (c.fact 11 (f := .glo "_law_pick") rfl), He.glo_ok X G (c.fact 12 (f := .glo "_law_form") rfl), He.glo_ok X G (c.fact 13 (f := .glo "_law_kept_in") rfl), He.glo_ok X G (c.fact 14 (f := .glo "_law_walk_right") rfl), He.glo_ok X G (c.fact 15 (f := .glo "law") rfl), He.free_ok X G (c.fact 16 (f := .free "abs") rfl), He.free_ok X G (c.fact 17 (f := .free "all") rfl), He.free_ok X G (c.fact 18 (f := .free "dict") rfl), He.free_ok X G (c.fact 19 (f := .free "int") rfl), He.free_ok X G (c.fact 20 (f := .free "isinstance") rfl), He.free_ok X G (c.fact 21 (f := .free "len") rfl), He.free_ok X G (c.fact 22 (f := .free "max") rfl), He.free_ok X G (c.fact 23 (f := .free "min") rfl), He.free_ok X G (c.fact 24 (f := .free "range") rfl), He.free_ok X G (c.fact 25 (f := .free "repr") rfl), He.free_ok X G (c.fact 26 (f := .free "str") rfl), ⟨_, He.glo_ok X G (c.fact 27 (f := .glo "FRESH") rfl), Mn.tab_ref (He.ba e).1⟩, He.str_ok X G (c.fact 28 (f := .str "LETTERS" "abcdefghijklmnopqrstuvwxyz") rfl), He.int_ok X G (c.fact 29 (f := .int "MOST_ROMAN" 39) rfl), He.int_ok X G (c.fact 30 (f := .int "MOST_SIGNS" 200) rfl), ⟨_, He.glo_ok X G (c.fact 31 (f := .glo "ROMAN") rfl), Mn.tab_ref (He.ba e).2⟩, He.str_ok X G (c.fact 32 (f := .str "SHUT" ")") rfl)⟩
  obtain ⟨fd_clamped, F_clamped⟩ := c.def_ 0 (d := d_clamped) rfl
  have I_clamped : Df P w mg base (kx K) 1 d_clamped ["value", "least", "most"] f_clamped := ok_clamped (k := kx K) T F_clamped 
  obtain ⟨fd_roman, F_roman⟩ := c.def_ 1 (d := d_roman) rfl
  have I_roman : Df P w mg base (kx K) 1 d_roman ["value"] f_roman := ok_roman (k := kx K) T F_roman 
  obtain ⟨fd_shown, F_shown⟩ := c.def_ 2 (d := d_shown) rfl
  have I_shown : Df P w mg base (kx K) 2 d_shown ["value", "form"] f_shown := ok_shown (k := kx K) T F_shown I_roman
  obtain ⟨fd_stepped, F_stepped⟩ := c.def_ 3 (d := d_stepped) rfl
  have I_stepped : Df P w mg base (kx K) 2 d_stepped ["told"] f_stepped := ok_stepped (k := kx K) T F_stepped I_clamped
  obtain ⟨fd_is_name, F_is_name⟩ := c.def_ 4 (d := d_is_name) rfl
  have I_is_name : Df P w mg base (kx K) 1 d_is_name ["thing", "least"] f_is_name := ok_is_name (k := kx K) T F_is_name 
  obtain ⟨fd_asked_at, F_asked_at⟩ := c.def_ 5 (d := d_asked_at) rfl
  have I_asked_at : Df P w mg base (kx K) 1 d_asked_at ["line", "at"] f_asked_at := ok_asked_at (k := kx K) T F_asked_at 
  obtain ⟨fd_register_told, F_register_told⟩ := c.def_ 6 (d := d_register_told) rfl
  have I_register_told : Df P w mg base (kx K) 3 d_register_told ["inner", "registers"] f_register_told := ok_register_told (k := kx K) T F_register_told I_is_name I_shown I_stepped
  obtain ⟨fd_told_by, F_told_by⟩ := c.def_ 7 (d := d_told_by) rfl
  have I_told_by : Df P w mg base (kx K) 4 d_told_by ["letter", "inner", "registers", "strings", "args"] f_told_by := ok_told_by (k := kx K) T F_told_by I_is_name I_register_told
  obtain ⟨fd_put_in, F_put_in⟩ := c.def_ 8 (d := d_put_in) rfl
  have I_put_in : Df P w mg base (kx K) 5 d_put_in ["line", "registers", "strings", "args"] f_put_in := ok_put_in (k := kx K) T F_put_in I_asked_at I_told_by
  obtain ⟨fd_v_law_pen, F_v_law_pen⟩ := c.def_ 9 (d := d_v_law_pen) rfl
  have I_v_law_pen : Df P w mg base (kx K) 1 d_v_law_pen ["_law_script"] f_v_law_pen := ok_v_law_pen (k := kx K) T F_v_law_pen 
  obtain ⟨fd_v_law_draw, F_v_law_draw⟩ := c.def_ 10 (d := d_v_law_draw) rfl
  have I_v_law_draw : Df P w mg base (kx K) 1 d_v_law_draw ["_law_pen_here", "_law_many"] f_v_law_draw := ok_v_law_draw (k := kx K) T F_v_law_draw 
  obtain ⟨fd_v_law_pick, F_v_law_pick⟩ := c.def_ 11 (d := d_v_law_pick) rfl
  have I_v_law_pick : Df P w mg base (kx K) 2 d_v_law_pick ["_law_pen_here", "_law_some"] f_v_law_pick := ok_v_law_pick (k := kx K) T F_v_law_pick I_v_law_draw
  obtain ⟨fd_v_law_form, F_v_law_form⟩ := c.def_ 12 (d := d_v_law_form) rfl
  have I_v_law_form : Df P w mg base (kx K) 1 d_v_law_form ["_law_told"] f_v_law_form := ok_v_law_form (k := kx K) T F_v_law_form 
  obtain ⟨fd_v_law_kept_in, F_v_law_kept_in⟩ := c.def_ 13 (d := d_v_law_kept_in) rfl
  have I_v_law_kept_in : Df P w mg base (kx K) 1 d_v_law_kept_in ["_law_value"] f_v_law_kept_in := ok_v_law_kept_in (k := kx K) T F_v_law_kept_in 
  obtain ⟨fd_v_law_walk_right, F_v_law_walk_right⟩ := c.def_ 14 (d := d_v_law_walk_right) rfl
  have I_v_law_walk_right : Df P w mg base (kx K) 6 d_v_law_walk_right ["_law_value", "_law_step", "_law_form_here", "_law_many", "_law_other"] f_v_law_walk_right := ok_v_law_walk_right (k := kx K) T F_v_law_walk_right I_v_law_form I_v_law_kept_in I_put_in
  obtain ⟨fd_law, F_law⟩ := c.def_ 15 (d := d_law) rfl
  have I_law : Df P w mg base (kx K) 7 d_law ["_law_script"] f_law := ok_law (k := kx K) T F_law I_v_law_draw I_v_law_form I_v_law_pen I_v_law_pick I_v_law_walk_right I_put_in
  exact I_law
theorem fin {w : World} {mg : Str → Option Value} {fa : Addr} {h : Heap} (Y : hk.says w h) (G : h.Ns mainGlobals mg) (hmg0 : mg (HandSHeadRun.topDef (PySem.W.OpenLaw.row PySem.Challenge.rw_trapsetter_k16_registers_put_in).prog 26).name = some (.ref fa)) :
    ∃ (k : Kx) (fd : FuncData), k.K.In h ∧ (∀ (s : Shared) (u : Value), BindsTo s fd ⟨[u], []⟩ [("_law_script", u)]) ∧ ∀ base : Heap, k.K.In base → base.Ns mainGlobals mg → FnM (PySem.W.OpenLaw.row PySem.Challenge.rw_trapsetter_k16_registers_put_in).prog w mg base k 7 fa fd ["_law_script"] f_law := by
  obtain ⟨K, KX, c⟩ := Y
  have hmg : mg ("law" : Str) = some (.ref fa) := by
    have e : (HandSHeadRun.topDef (PySem.W.OpenLaw.row PySem.Challenge.rw_trapsetter_k16_registers_put_in).prog 26).name = ("law" : Str) := by kernel_rfl
    rw [← e]
    exact hmg0
  have cD : He.SaysD fcts fn K := c.t.d
  have cE : ex K = true := c.more
  obtain ⟨fd, FD⟩ := cD.def_ 15 (d := d_law) rfl
  refine ⟨kx K, fd, KX, fun s u => FunD.bindsA (ps := ["_law_script"]) FD (fun _ _ _ _ _ _ us hl => match us, hl with | [_], _ => rfl) s [u] rfl, fun base _ _ => ?_⟩
  obtain ⟨fd2, G2, FD2⟩ := (facts (P := (PySem.W.OpenLaw.row PySem.Challenge.rw_trapsetter_k16_registers_put_in).prog) (w := w) KX G cD cE base).ex
  have e1 : He.fAd K d_law.at_ = fa := by
    have q := (He.glo_ok KX G (cD.fact 15 (f := .glo "law") rfl)).symm.trans hmg
    cases q
    rfl
  have e2 : fd2 = fd := Mn.FunD.uniq FD2 FD
  subst e2
  rw [← e1]
  exact G2
end Lw
open PySem PySem.W PySem.Calls PyProof.Rows
set_option maxHeartbeats 0 in
theorem Lw.holds_of (hF : ∀ ns : List Int, ns.length ≤ 63 → ∃ m', Lw.f_law [.frl (ns.map Mn.D.int)] [] = .ok (.bl true) m') : PySem.Challenge.rw_trapsetter_k16_registers_put_in.Holds := by
  w_on; o_law
  refine HandSHeadRun.head_any (r := OpenLaw.row PySem.Challenge.rw_trapsetter_k16_registers_put_in) (q := view (OpenLaw.row PySem.Challenge.rw_trapsetter_k16_registers_put_in).prog [26]) (H := Lw.hk) (ob := Lw.ob) (M := 2220) (loose := Lw.loose) (d := HandSHeadRun.topDef (OpenLaw.row PySem.Challenge.rw_trapsetter_k16_registers_put_in).prog 26) (kwd := []) Lw.ob_eq
    (by kernel_rfl) (fun s => by kernel_rfl) Lw.run (by kernel_rfl) (by kernel_rfl) (by kernel_rfl) (by rfl) (by first | assumption | decide +kernel) (by decide +kernel) ⟨rfl, rfl, rfl, rfl, rfl, by decide +kernel⟩ ?hw ?hc
  case hw => w_witness2
  case hc =>
    refine Mn.walk_fm (l := PySem.Challenge.rw_trapsetter_k16_registers_put_in) (n := 7) (x := "_law_script") (F := Lw.f_law) rfl (by kernel_rfl) ⟨rfl, by decide, by decide⟩ hF ?_
    intro w mg fa h Y G hmg0
    exact Lw.fin Y G hmg0
end

section
namespace Lw
open PySem PySem.Spec PyProof.Rows L2 Mn
set_option maxHeartbeats 2000000
theorem stirA {n w : Int} (h0 : 0 ≤ n) (h1 : n ≤ 1000000) : (w % 2147483497 + 10037 * n * n + 70003 * n + 103).natAbs < 18446744073709551616 := by
  have a1 := Int.emod_nonneg w (show (2147483497 : Int) ≠ 0 by omega)
  have a2 := Int.emod_lt_of_pos w (show (0 : Int) < 2147483497 by omega)
  obtain ⟨b1, b2⟩ := mul_small (a := 10037 * n) (b := n) (A := 10037 * 1000000) (B := 1000000) (by omega) (by omega) h0 h1
  omega
theorem stirB {n X : Int} (h0 : 0 ≤ n) (h1 : n ≤ 1000000) : (X % 2147483629 + 43 * n + 29).natAbs < 18446744073709551616 := by
  have a1 := Int.emod_nonneg X (show (2147483629 : Int) ≠ 0 by omega)
  have a2 := Int.emod_lt_of_pos X (show (0 : Int) < 2147483629 by omega)
  omega
theorem stirC {X : Int} : (X % 40009 + 31).natAbs < 18446744073709551616 := by
  have a1 := Int.emod_nonneg X (show (40009 : Int) ≠ 0 by omega)
  have a2 := Int.emod_lt_of_pos X (show (0 : Int) < 40009 by omega)
  omega
theorem draw_wp {m : MH} {p b : Nat} {z : Int} (h : PenL m p (b + 1)) (h0 : 0 < z) (h1 : z < 1073741824) :
    wp (f_v_law_draw [.ref p, .int z] m) fun d m' => ∃ r, d = .int r ∧ 0 ≤ r ∧ r < z ∧ m'.length = m.length ∧ Ext p m m' ∧ PenL m' p b := by
  obtain ⟨c, xs, n, l, hc, hp, hx, h2, h3, h4, h5⟩ := h.ex
  have hp : m[p]? = some (penL c n l) := hp
  have hp2 : ∀ o, (m.set p o)[p]? = some o := fun o => set_get hp
  have hx2 : ∀ o, (m.set p o)[c]? = some (.lst (xs.map D.int)) := fun o => (set_ne hc.1).trans hx
  have fin : ∀ n' l' r, n' = n + 1 ∨ n' = n → 0 ≤ l' → 0 ≤ r → r < z → ∃ r', (gc m (.int r) (m.set p (penL c n' l'))).1 = .int r' ∧ 0 ≤ r' ∧ r' < z ∧ (gc m (.int r) (m.set p (penL c n' l'))).2.length = m.length ∧ Ext p m (gc m (.int r) (m.set p (penL c n' l'))).2 ∧ PenL (gc m (.int r) (m.set p (penL c n' l'))).2 p b :=
    fun n' l' r e1 e2 e3 e4 => Pen.fin (k := false) (b := b) h.lt hc hp hx (by omega) (by omega) e2 e3 e4 h5
  apply wp_fnD
  unfold b_v_law_draw
  ((try dsimp only); simp -implicitDefEqProofs only [ws_seq, ws_set, ws_par2, ws_exp, ws_ret, ws_if, ws_tg, ws_store, ws_nil, ws_aug, ws_aug2, thenR_nx, thenR_ret, thenR_bk, thenR_ct, wp_var, wp_con, wp_bin, wp_un, wp_nil, wp_cons, wp_fn, wp_test, wp_and, wp_or, wp_not, wp_andV, wp_orV, wp_notV, wp_if, wp_chain, wp_call, wp_sl, wp_nopart, wp_part, wp_bm, wp_iter, wp_rng1, wp_rng2, wp_lc, wp_bind, wp_ok, wp_up, Tg.set, setsD, List.getElem?_cons_zero, List.getElem?_cons_succ, List.set_cons_zero, List.set_cons_succ, List.length_cons, List.length_nil, and_self, if_true, reduceCtorEq, Nat.reduceAdd, List.map_cons, List.map_nil, Nat.reduceSub, List.replicate_succ, List.replicate_zero, List.cons_append, List.nil_append, ux_add, ux_iadd, ux_sub, ux_mul, ux_div, ux_mod, ux_pow, ux_neg, ux_eqI, ux_neI, ux_eqS, ux_neS, ux_lt, ux_le, ux_gt, ux_ge, ux_abs, ux_max, ux_min, ux_intI, ux_intB, ux_lst, ux_tup, mulOk_iff, true_or, or_true, ux_lenT, ux_lenF, ux_t0, ux_t1, ux_t2, ux_t3, ux_t4, ux_t5, isB, decide_eq_true_eq, Bool.not_eq_true', decide_eq_false_iff_not, i62, true_and, and_true, if_false, Int.reduceLT, Int.reduceLE, Int.reduceAbs, Nat.reduceLT, Nat.reduceLeDiff, Nat.reducePow, Int.reducePow, Int.reduceToNat, Int.reduceNeg, Nat.reduceEqDiff, or_self, not_true, not_false_eq_true, Bool.not_true, Bool.not_false, decide_true, decide_false, Bool.false_eq_true, pD, pks, Pk.get, List.drop_zero, List.drop_succ_cons, List.take_succ_cons, List.take_zero, pl_0 hp, pl_1 hp, pl_2 hp, pl_set1 hp, pl_set2 hp, pl_0 (hp2 _), pl_1 (hp2 _), pl_2 (hp2 _), pl_set1 (hp2 _), pl_set2 (hp2 _), ux_lenL (hx2 _), h0, h1, List.length_map, List.set_set]; repeat (refine And.intro (by omega) ?_))
  split
  · exact fin _ _ _ (.inr rfl) (Int.ediv_nonneg h4 (by omega)) (Int.emod_nonneg _ (by omega)) (Int.emod_lt_of_pos _ h0)
  · split
    · rename_i hlt
      ((try dsimp only); simp -implicitDefEqProofs only [ws_seq, ws_set, ws_par2, ws_exp, ws_ret, ws_if, ws_tg, ws_store, ws_nil, ws_aug, ws_aug2, thenR_nx, thenR_ret, thenR_bk, thenR_ct, wp_var, wp_con, wp_bin, wp_un, wp_nil, wp_cons, wp_fn, wp_test, wp_and, wp_or, wp_not, wp_andV, wp_orV, wp_notV, wp_if, wp_chain, wp_call, wp_sl, wp_nopart, wp_part, wp_bm, wp_iter, wp_rng1, wp_rng2, wp_lc, wp_bind, wp_ok, wp_up, Tg.set, setsD, List.getElem?_cons_zero, List.getElem?_cons_succ, List.set_cons_zero, List.set_cons_succ, List.length_cons, List.length_nil, and_self, if_true, reduceCtorEq, Nat.reduceAdd, List.map_cons, List.map_nil, Nat.reduceSub, List.replicate_succ, List.replicate_zero, List.cons_append, List.nil_append, ux_add, ux_iadd, ux_sub, ux_mul, ux_div, ux_mod, ux_pow, ux_neg, ux_eqI, ux_neI, ux_eqS, ux_neS, ux_lt, ux_le, ux_gt, ux_ge, ux_abs, ux_max, ux_min, ux_intI, ux_intB, ux_lst, ux_tup, mulOk_iff, true_or, or_true, ux_lenT, ux_lenF, ux_t0, ux_t1, ux_t2, ux_t3, ux_t4, ux_t5, isB, decide_eq_true_eq, Bool.not_eq_true', decide_eq_false_iff_not, i62, true_and, and_true, if_false, Int.reduceLT, Int.reduceLE, Int.reduceAbs, Nat.reduceLT, Nat.reduceLeDiff, Nat.reducePow, Int.reducePow, Int.reduceToNat, Int.reduceNeg, Nat.reduceEqDiff, or_self, not_true, not_false_eq_true, Bool.not_true, Bool.not_false, decide_true, decide_false, Bool.false_eq_true, ux_ixI (hx2 _) (Int.emod_nonneg n (show (xs.length : Int) ≠ 0 by omega)) (Int.emod_lt_of_pos n hlt), pl_0 (hp2 _), pl_1 (hp2 _), pl_2 (hp2 _), pl_set2 (hp2 _), ux_lenL (hx2 _), hlt, h0, h1, List.length_map, List.set_set]; repeat (refine And.intro (by omega) ?_))
      generalize xs.getD (n % (xs.length : Int)).toNat 0 = w
      generalize hu : (if w < 0 then -w else w) = u
      have hu0 : 0 ≤ u := by split at hu <;> omega
      split
      · split
        · exact fin _ _ _ (.inl rfl) (Int.ediv_nonneg (by omega) (by omega)) (Int.emod_nonneg _ (by omega)) (Int.emod_lt_of_pos _ h0)
        · repeat' apply And.intro
          all_goals first | omega | exact stirA h2 (by omega) | exact stirB h2 (by omega) | exact .inr stirC | exact fin _ _ _ (.inl rfl) h4 (Int.emod_nonneg _ (by omega)) (Int.emod_lt_of_pos _ h0)
      · repeat' apply And.intro
        all_goals first | omega | exact stirA h2 (by omega) | exact stirB h2 (by omega) | exact .inr stirC | exact fin _ _ _ (.inl rfl) h4 (Int.emod_nonneg _ (by omega)) (Int.emod_lt_of_pos _ h0)
    · split
      · exfalso
        omega
      · repeat' apply And.intro
        all_goals first | omega | exact stirA h2 (by omega) | exact stirB h2 (by omega) | exact .inr stirC | exact fin _ _ _ (.inl rfl) h4 (Int.emod_nonneg _ (by omega)) (Int.emod_lt_of_pos _ h0)
theorem draw_then {m : MH} {p b : Nat} {z : Int} {P : D → MH → Prop} (h : PenL m p (b + 1)) (h0 : 0 < z) (h1 : z < 1073741824)
    (i : ∀ r m', 0 ≤ r → r < z → m'.length = m.length → Ext p m m' → PenL m' p b → P (.int r) m') : wp (f_v_law_draw [.ref p, .int z] m) P :=
  wp_mono (draw_wp h h0 h1) fun d m' ⟨r, e, a1, a2, a3, a4, a5⟩ => by
    subst e
    exact i r m' a1 a2 a3 a4 a5
theorem pen_then {ns : List Int} {P : D → MH → Prop} (i : ∀ m, PenL m 0 1000000 → m.length = 2 → P (.ref 0) m) : wp (f_v_law_pen [.frl (ns.map D.int)] []) P := by
  apply wp_fnD
  unfold b_v_law_pen
  ((try dsimp only); simp -implicitDefEqProofs only [ws_seq, ws_set, ws_par2, ws_exp, ws_ret, ws_if, ws_tg, ws_store, ws_nil, ws_aug, ws_aug2, thenR_nx, thenR_ret, thenR_bk, thenR_ct, wp_var, wp_con, wp_bin, wp_un, wp_nil, wp_cons, wp_fn, wp_test, wp_and, wp_or, wp_not, wp_andV, wp_orV, wp_notV, wp_if, wp_chain, wp_call, wp_sl, wp_nopart, wp_part, wp_bm, wp_iter, wp_rng1, wp_rng2, wp_lc, wp_bind, wp_ok, wp_up, Tg.set, setsD, List.getElem?_cons_zero, List.getElem?_cons_succ, List.set_cons_zero, List.set_cons_succ, List.length_cons, List.length_nil, and_self, if_true, reduceCtorEq, Nat.reduceAdd, List.map_cons, List.map_nil, Nat.reduceSub, List.replicate_succ, List.replicate_zero, List.cons_append, List.nil_append, ux_add, ux_iadd, ux_sub, ux_mul, ux_div, ux_mod, ux_pow, ux_neg, ux_eqI, ux_neI, ux_eqS, ux_neS, ux_lt, ux_le, ux_gt, ux_ge, ux_abs, ux_max, ux_min, ux_intI, ux_intB, ux_lst, ux_tup, mulOk_iff, true_or, or_true, ux_lenT, ux_lenF, ux_t0, ux_t1, ux_t2, ux_t3, ux_t4, ux_t5, isB, decide_eq_true_eq, Bool.not_eq_true', decide_eq_false_iff_not, i62, true_and, and_true, if_false, Int.reduceLT, Int.reduceLE, Int.reduceAbs, Nat.reduceLT, Nat.reduceLeDiff, Nat.reducePow, Int.reducePow, Int.reduceToNat, Int.reduceNeg, Nat.reduceEqDiff, or_self, not_true, not_false_eq_true, Bool.not_true, Bool.not_false, decide_true, decide_false, Bool.false_eq_true, pD, pks, Pk.get, List.drop_zero, List.drop_succ_cons, List.take_succ_cons, List.take_zero, slD, cutD_map, List.length_nil]; repeat (refine And.intro (by omega) ?_))
  rw [gc_penL (c := 0) (o := .lst ((Mn.cutD ns none (some 63)).map D.int)) rfl rfl (refsL_int _) (by decide)]
  exact i _ (Pen.newL cut63) rfl
end Lw
end

section
namespace Lw
open PySem PySem.Spec PyProof.Rows L2 Mn
set_option maxHeartbeats 4000000
theorem get_newK {m g : MH} (k : Nat) : (m ++ g)[m.length + k]? = g[k]? := by
  rw [List.getElem?_append_right (by omega)]
  congr 1
  omega
/-- one of a list -/
theorem pick_then {m : MH} {p q b : Nat} {xs : List D} {P : D → MH → Prop} (h : PenL m p (b + 1)) (hq : m[q]? = some (.lst xs)) (ne : q ≠ p) (hn : 0 < xs.length) (hm : xs.length < 1000000) (hr : ∀ d ∈ xs, d.refs = [])
    (i : ∀ d m', d ∈ xs → m'.length = m.length → Ext p m m' → PenL m' p b → P d m') : wp (f_v_law_pick [.ref p, .ref q] m) P := by
  have lp := h.lt
  apply wp_fnD
  unfold b_v_law_pick
  ((try dsimp only); try simp -implicitDefEqProofs only [ws_seq, ws_set, ws_par2, ws_exp, ws_ret, ws_if, ws_tg, ws_nil, ws_aug, thenR_nx, thenR_ret, thenR_bk, thenR_ct, wp_var, wp_con, wp_bin, wp_un, wp_nil, wp_cons, wp_fn, wp_test, wp_and, wp_or, wp_not, wq_andV, wq_orV, bIf_bl, ite_both, ux_mulST, wp_notV, wp_if, wq_chain, wp_call, wp_sl, wp_nopart, wp_part, wp_bm, wp_iter, wp_rng1, wp_rng2, wp_lc, wp_bind, wp_ok, wp_up, Tg.set, setsD, List.getElem?_cons_zero, List.getElem?_cons_succ, List.set_cons_zero, List.set_cons_succ, List.length_cons, List.length_nil, and_self, if_true, reduceCtorEq, Nat.reduceAdd, List.map_cons, List.map_nil, Nat.reduceSub, List.replicate_succ, List.replicate_zero, List.cons_append, List.nil_append, ux_add, ux_iadd, ux_sub, ux_mul, ux_div, ux_mod, ux_pow, ux_neg, ux_eqI, ux_neI, ux_eqS, ux_neS, ux_lt, ux_le, ux_gt, ux_ge, ux_abs, ux_max, ux_min, ux_intI, ux_intB, ux_lst, ux_tup, mulOk_iff, true_or, or_true, ux_lenT, ux_lenF, ux_t0, ux_t1, ux_t2, ux_t3, ux_t4, ux_t5, isB, decide_eq_true_eq, Bool.not_eq_true', decide_eq_false_iff_not, i62, true_and, and_true, if_false, Int.reduceLT, Int.reduceLE, Int.reduceAbs, Nat.reduceLT, Nat.reduceLeDiff, Nat.reducePow, Int.reducePow, Int.reduceToNat, Int.reduceNeg, Nat.reduceEqDiff, or_self, not_true, not_false_eq_true, Bool.not_true, Bool.not_false, decide_true, decide_false, Bool.false_eq_true, len_map1, app2, app3, List.append_assoc, List.length_append, Nat.zero_add, Nat.add_zero, get_newc, get_new1, get_new2, get_new3, set_newc, set_new1, set_new2, it_str, it_tup, it_frl, gx_it, gx_isLs, gx_isTx, gx_len, gx_ixI, gx_ixS, gx_getI, gx_getS, ws_storeP, ws_aug2P, gx_stI, gx_stS, gx_app, gx_pop, gx_rev, gx_cat, gx_catT, gx_sl, gx_slT, gx_slF, gx_join, gx_joinT, gx_tup, gx_tupT, gx_tupF, gx_lst, gx_lstT, gx_lstF, gx_all, gx_notInK, Mn.atI_last, Mn.ixN_last, Mn.atI_0, gx_mulL, gx_mulT, ux_isB, ux_notB, ux_isNN, ux_notNN, ux_isSN, ux_notSN, ux_isIN, ux_notIN, ux_isTN, ux_notTN, ux_isRN, ux_notRN, gx_sort, gx_dct, Mn.atI_1, Mn.atI_2, Mn.atI_3, List.length_map, set_lastM, set_lastL, List.getLast?_concat, List.dropLast_concat, gcn_str, gcn_int, gcn_bl, gcn_non, gcs_str, gcs_int, gcs_bl, gcs_non, gcn_tup, gcs_tup, gcn_lst, gcn_lst1, gcn_lst2, refsL_strs, refsL_nil, refsL_s, refsL_i, refsL_n, refsL_b, refsL_t, refsL_app, ux_slS, ux_addS, ux_iaddS, ux_lenS, ux_ixS, ux_inT2, ux_inT3, findK_nil, findK_cons, putKD_nil, putKD_cons, gx_rvL, gx_rvF, gx_rvT, gx_rvS, gx_repl, ws_no, ux_neB, ux_eqB, txsOf_map, ws_forE, keyOf_str, keyOf_int, joinTx_nil, List.foldl_cons, List.foldl_nil, pD, pks, Pk.get, List.drop_zero, List.drop_succ_cons, List.take_succ_cons, List.take_zero, hq]; repeat (refine And.intro (by omega) ?_))
  refine draw_then h (by omega) (by omega) fun r m' r0 r1 hl e hb => ?_
  have hq1 := e.get hq ne
  refine ix_then hq1 r0 r1 fun d hd => ?_
  exact hb.val (d := d) lp e (by rw [hr d hd]; exact fun i hi => nomatch hi) fun m' f1 f2 f3 => i d m' hd f1 f2 f3
end Lw
end

section
namespace Lw
open PySem PySem.Spec PyProof.Rows L2 Mn
set_option maxHeartbeats 2000000
def repT (n : Nat) (t : Mn.Tx) : Mn.Tx := (List.replicate n t).flatten
def romStep (p : Mn.Tx × Nat) (e : Nat × Mn.Tx) : Mn.Tx × Nat := (p.1 ++ repT (p.2 / e.1) e.2, p.2 % e.1)
def romTab : List (Nat × Mn.Tx) := [(10, [120]), (9, [105, 120]), (5, [118]), (4, [105, 118]), (1, [105])]
def romanT (n : Nat) : Mn.Tx := (romTab.foldl romStep ([], n)).1
def shownT (v : Int) (f : Mn.Tx) : Mn.Tx :=
  if f = [97] ∧ 1 ≤ v ∧ v ≤ 26 then [abc.getD (v - 1).toNat 0]
  else if f = [105] ∧ 1 ≤ v ∧ v ≤ 39 then romanT v.toNat
  else if f = [48, 49] ∧ -10 < v ∧ v < 10 then (if v < 0 then [45] else []) ++ [48] ++ figs v.natAbs
  else strInt v
theorem repT_len (n : Nat) (t : Mn.Tx) : (repT n t).length = n * t.length := by
  unfold repT
  simp
theorem roman_while {m : MH} {R : Fl → Fr → MH → Prop} {v s : Nat} {x t : Mn.Tx} (hs : 0 < s) (ht : t.length ≤ 2) (hx : x.length + 2 * v ≤ 1000) (q : R .nx [some (.int (v % s : Nat)), some (.str (x ++ repT (v / s) t)), some (.int (s : Nat)), some (.str t)] m) :
    ws (sWhile (gTest (gBin geD (gVar 0) (gVar 2))) l1_roman [some (.int (v : Nat)), some (.str x), some (.int (s : Nat)), some (.str t)] m) R := by
  refine ws_while (fun n f m' => m' = m ∧ ∃ (v' : Nat) (x' : Mn.Tx), f = [some (.int (v' : Nat)), some (.str x'), some (.int (s : Nat)), some (.str t)] ∧ x' ++ repT (v' / s) t = x ++ repT (v / s) t ∧ v' % s = v % s ∧ n = v' ∧ x'.length + 2 * v' ≤ 1000) (n0 := v) (by omega) ⟨rfl, v, x, rfl, rfl, rfl, rfl, hx⟩ ?_
  rintro n f m' ⟨rfl, v', x', rfl, h1, h2, hn, h3⟩
  ((try dsimp only); try simp -implicitDefEqProofs only [ws_seq, ws_set, ws_par2, ws_exp, ws_ret, ws_if, ws_tg, ws_nil, ws_aug, thenR_nx, thenR_ret, thenR_bk, thenR_ct, wp_var, wp_con, wp_bin, wp_un, wp_nil, wp_cons, wp_fn, wp_test, wp_and, wp_or, wp_not, wq_andV, wq_orV, bIf_bl, ite_both, ux_mulST, wp_notV, wp_if, wq_chain, wp_call, wp_sl, wp_nopart, wp_part, wp_bm, wp_iter, wp_rng1, wp_rng2, wp_lc, wp_bind, wp_ok, wp_up, Tg.set, setsD, List.getElem?_cons_zero, List.getElem?_cons_succ, List.set_cons_zero, List.set_cons_succ, List.length_cons, List.length_nil, and_self, if_true, reduceCtorEq, Nat.reduceAdd, List.map_cons, List.map_nil, Nat.reduceSub, List.replicate_succ, List.replicate_zero, List.cons_append, List.nil_append, ux_add, ux_iadd, ux_sub, ux_mul, ux_div, ux_mod, ux_pow, ux_neg, ux_eqI, ux_neI, ux_eqS, ux_neS, ux_lt, ux_le, ux_gt, ux_ge, ux_abs, ux_max, ux_min, ux_intI, ux_intB, ux_lst, ux_tup, mulOk_iff, true_or, or_true, ux_lenT, ux_lenF, ux_t0, ux_t1, ux_t2, ux_t3, ux_t4, ux_t5, isB, decide_eq_true_eq, Bool.not_eq_true', decide_eq_false_iff_not, i62, true_and, and_true, if_false, Int.reduceLT, Int.reduceLE, Int.reduceAbs, Nat.reduceLT, Nat.reduceLeDiff, Nat.reducePow, Int.reducePow, Int.reduceToNat, Int.reduceNeg, Nat.reduceEqDiff, or_self, not_true, not_false_eq_true, Bool.not_true, Bool.not_false, decide_true, decide_false, Bool.false_eq_true, len_map1, app2, app3, List.append_assoc, List.length_append, Nat.zero_add, Nat.add_zero, get_newc, get_new1, get_new2, get_new3, set_newc, set_new1, set_new2, it_str, it_tup, it_frl, gx_it, gx_isLs, gx_isTx, gx_len, gx_ixI, gx_ixS, gx_getI, gx_getS, ws_storeP, ws_aug2P, gx_stI, gx_stS, gx_app, gx_pop, gx_rev, gx_cat, gx_catT, gx_sl, gx_slT, gx_slF, gx_join, gx_joinT, gx_tup, gx_tupT, gx_tupF, gx_lst, gx_lstT, gx_lstF, gx_all, gx_notInK, Mn.atI_last, Mn.ixN_last, Mn.atI_0, gx_mulL, gx_mulT, ux_isB, ux_notB, ux_isNN, ux_notNN, ux_isSN, ux_notSN, ux_isIN, ux_notIN, ux_isTN, ux_notTN, ux_isRN, ux_notRN, gx_sort, gx_dct, Mn.atI_1, Mn.atI_2, Mn.atI_3, List.length_map, set_lastM, set_lastL, List.getLast?_concat, List.dropLast_concat, gcn_str, gcn_int, gcn_bl, gcn_non, gcs_str, gcs_int, gcs_bl, gcs_non, gcn_tup, gcs_tup, gcn_lst, gcn_lst1, gcn_lst2, refsL_strs, refsL_nil, refsL_s, refsL_i, refsL_n, refsL_b, refsL_t, refsL_app, ux_slS, ux_addS, ux_iaddS, ux_lenS, ux_ixS, ux_inT2, ux_inT3, findK_nil, findK_cons, putKD_nil, putKD_cons, gx_rvL, gx_rvF, gx_rvT, gx_rvS, gx_repl, ws_no, ux_neB, ux_eqB, txsOf_map, ws_forE, keyOf_str, keyOf_int, joinTx_nil, List.foldl_cons, List.foldl_nil]; repeat (refine And.intro (by omega) ?_))
  by_cases h : (s : Int) ≤ (v' : Int)
  · rw [if_pos h]
    unfold l1_roman
    ((try dsimp only); try simp -implicitDefEqProofs only [ws_seq, ws_set, ws_par2, ws_exp, ws_ret, ws_if, ws_tg, ws_nil, ws_aug, thenR_nx, thenR_ret, thenR_bk, thenR_ct, wp_var, wp_con, wp_bin, wp_un, wp_nil, wp_cons, wp_fn, wp_test, wp_and, wp_or, wp_not, wq_andV, wq_orV, bIf_bl, ite_both, ux_mulST, wp_notV, wp_if, wq_chain, wp_call, wp_sl, wp_nopart, wp_part, wp_bm, wp_iter, wp_rng1, wp_rng2, wp_lc, wp_bind, wp_ok, wp_up, Tg.set, setsD, List.getElem?_cons_zero, List.getElem?_cons_succ, List.set_cons_zero, List.set_cons_succ, List.length_cons, List.length_nil, and_self, if_true, reduceCtorEq, Nat.reduceAdd, List.map_cons, List.map_nil, Nat.reduceSub, List.replicate_succ, List.replicate_zero, List.cons_append, List.nil_append, ux_add, ux_iadd, ux_sub, ux_mul, ux_div, ux_mod, ux_pow, ux_neg, ux_eqI, ux_neI, ux_eqS, ux_neS, ux_lt, ux_le, ux_gt, ux_ge, ux_abs, ux_max, ux_min, ux_intI, ux_intB, ux_lst, ux_tup, mulOk_iff, true_or, or_true, ux_lenT, ux_lenF, ux_t0, ux_t1, ux_t2, ux_t3, ux_t4, ux_t5, isB, decide_eq_true_eq, Bool.not_eq_true', decide_eq_false_iff_not, i62, true_and, and_true, if_false, Int.reduceLT, Int.reduceLE, Int.reduceAbs, Nat.reduceLT, Nat.reduceLeDiff, Nat.reducePow, Int.reducePow, Int.reduceToNat, Int.reduceNeg, Nat.reduceEqDiff, or_self, not_true, not_false_eq_true, Bool.not_true, Bool.not_false, decide_true, decide_false, Bool.false_eq_true, len_map1, app2, app3, List.append_assoc, List.length_append, Nat.zero_add, Nat.add_zero, get_newc, get_new1, get_new2, get_new3, set_newc, set_new1, set_new2, it_str, it_tup, it_frl, gx_it, gx_isLs, gx_isTx, gx_len, gx_ixI, gx_ixS, gx_getI, gx_getS, ws_storeP, ws_aug2P, gx_stI, gx_stS, gx_app, gx_pop, gx_rev, gx_cat, gx_catT, gx_sl, gx_slT, gx_slF, gx_join, gx_joinT, gx_tup, gx_tupT, gx_tupF, gx_lst, gx_lstT, gx_lstF, gx_all, gx_notInK, Mn.atI_last, Mn.ixN_last, Mn.atI_0, gx_mulL, gx_mulT, ux_isB, ux_notB, ux_isNN, ux_notNN, ux_isSN, ux_notSN, ux_isIN, ux_notIN, ux_isTN, ux_notTN, ux_isRN, ux_notRN, gx_sort, gx_dct, Mn.atI_1, Mn.atI_2, Mn.atI_3, List.length_map, set_lastM, set_lastL, List.getLast?_concat, List.dropLast_concat, gcn_str, gcn_int, gcn_bl, gcn_non, gcs_str, gcs_int, gcs_bl, gcs_non, gcn_tup, gcs_tup, gcn_lst, gcn_lst1, gcn_lst2, refsL_strs, refsL_nil, refsL_s, refsL_i, refsL_n, refsL_b, refsL_t, refsL_app, ux_slS, ux_addS, ux_iaddS, ux_lenS, ux_ixS, ux_inT2, ux_inT3, findK_nil, findK_cons, putKD_nil, putKD_cons, gx_rvL, gx_rvF, gx_rvT, gx_rvS, gx_repl, ws_no, ux_neB, ux_eqB, txsOf_map, ws_forE, keyOf_str, keyOf_int, joinTx_nil, List.foldl_cons, List.foldl_nil]; repeat (refine And.intro (by omega) ?_))
    have e : (v' : Int) - (s : Int) = ((v' - s : Nat) : Int) := by omega
    have e2 : v' / s = (v' - s) / s + 1 := by
      rw [Nat.div_eq v' s, if_pos ⟨hs, by omega⟩]
    refine ⟨v' - s, by omega, v' - s, x' ++ t, by rw [e], ?_, ?_, rfl, by simp; omega⟩
    · rw [← h1, e2]
      unfold repT
      rw [List.replicate_succ, List.flatten_cons, List.append_assoc]
    · rw [← h2, Nat.mod_eq v' s, if_pos ⟨hs, by omega⟩]
  · rw [if_neg h]
    have e1 : v' % s = v' := Nat.mod_eq_of_lt (by omega)
    have e2 : v' / s = 0 := Nat.div_eq_of_lt (by omega)
    rw [e2] at h1
    rw [e1] at h2
    rw [← h1, ← h2] at q
    simpa [repT] using q
theorem roman_then {m : MH} {v : Nat} {P : D → MH → Prop} (hv : v ≤ 200) (q : P (.str (romanT v)) m) : wp (f_roman [.int (v : Nat)] m) P := by
  apply wp_fnD
  unfold b_roman
  ((try dsimp only); try simp -implicitDefEqProofs only [ws_seq, ws_set, ws_par2, ws_exp, ws_ret, ws_if, ws_tg, ws_nil, ws_aug, thenR_nx, thenR_ret, thenR_bk, thenR_ct, wp_var, wp_con, wp_bin, wp_un, wp_nil, wp_cons, wp_fn, wp_test, wp_and, wp_or, wp_not, wq_andV, wq_orV, bIf_bl, ite_both, ux_mulST, wp_notV, wp_if, wq_chain, wp_call, wp_sl, wp_nopart, wp_part, wp_bm, wp_iter, wp_rng1, wp_rng2, wp_lc, wp_bind, wp_ok, wp_up, Tg.set, setsD, List.getElem?_cons_zero, List.getElem?_cons_succ, List.set_cons_zero, List.set_cons_succ, List.length_cons, List.length_nil, and_self, if_true, reduceCtorEq, Nat.reduceAdd, List.map_cons, List.map_nil, Nat.reduceSub, List.replicate_succ, List.replicate_zero, List.cons_append, List.nil_append, ux_add, ux_iadd, ux_sub, ux_mul, ux_div, ux_mod, ux_pow, ux_neg, ux_eqI, ux_neI, ux_eqS, ux_neS, ux_lt, ux_le, ux_gt, ux_ge, ux_abs, ux_max, ux_min, ux_intI, ux_intB, ux_lst, ux_tup, mulOk_iff, true_or, or_true, ux_lenT, ux_lenF, ux_t0, ux_t1, ux_t2, ux_t3, ux_t4, ux_t5, isB, decide_eq_true_eq, Bool.not_eq_true', decide_eq_false_iff_not, i62, true_and, and_true, if_false, Int.reduceLT, Int.reduceLE, Int.reduceAbs, Nat.reduceLT, Nat.reduceLeDiff, Nat.reducePow, Int.reducePow, Int.reduceToNat, Int.reduceNeg, Nat.reduceEqDiff, or_self, not_true, not_false_eq_true, Bool.not_true, Bool.not_false, decide_true, decide_false, Bool.false_eq_true, len_map1, app2, app3, List.append_assoc, List.length_append, Nat.zero_add, Nat.add_zero, get_newc, get_new1, get_new2, get_new3, set_newc, set_new1, set_new2, it_str, it_tup, it_frl, gx_it, gx_isLs, gx_isTx, gx_len, gx_ixI, gx_ixS, gx_getI, gx_getS, ws_storeP, ws_aug2P, gx_stI, gx_stS, gx_app, gx_pop, gx_rev, gx_cat, gx_catT, gx_sl, gx_slT, gx_slF, gx_join, gx_joinT, gx_tup, gx_tupT, gx_tupF, gx_lst, gx_lstT, gx_lstF, gx_all, gx_notInK, Mn.atI_last, Mn.ixN_last, Mn.atI_0, gx_mulL, gx_mulT, ux_isB, ux_notB, ux_isNN, ux_notNN, ux_isSN, ux_notSN, ux_isIN, ux_notIN, ux_isTN, ux_notTN, ux_isRN, ux_notRN, gx_sort, gx_dct, Mn.atI_1, Mn.atI_2, Mn.atI_3, List.length_map, set_lastM, set_lastL, List.getLast?_concat, List.dropLast_concat, gcn_str, gcn_int, gcn_bl, gcn_non, gcs_str, gcs_int, gcs_bl, gcs_non, gcn_tup, gcs_tup, gcn_lst, gcn_lst1, gcn_lst2, refsL_strs, refsL_nil, refsL_s, refsL_i, refsL_n, refsL_b, refsL_t, refsL_app, ux_slS, ux_addS, ux_iaddS, ux_lenS, ux_ixS, ux_inT2, ux_inT3, findK_nil, findK_cons, putKD_nil, putKD_cons, gx_rvL, gx_rvF, gx_rvT, gx_rvS, gx_repl, ws_no, ux_neB, ux_eqB, txsOf_map, ws_forE, keyOf_str, keyOf_int, joinTx_nil, List.foldl_cons, List.foldl_nil, pD, pks, Pk.get, List.drop_zero, List.drop_succ_cons, List.take_succ_cons, List.take_zero]; repeat (refine And.intro (by omega) ?_))
  refine ws_fixR (by decide) ?_
  ((try dsimp only); try simp -implicitDefEqProofs only [ws_seq, ws_set, ws_par2, ws_exp, ws_ret, ws_if, ws_tg, ws_nil, ws_aug, thenR_nx, thenR_ret, thenR_bk, thenR_ct, wp_var, wp_con, wp_bin, wp_un, wp_nil, wp_cons, wp_fn, wp_test, wp_and, wp_or, wp_not, wq_andV, wq_orV, bIf_bl, ite_both, ux_mulST, wp_notV, wp_if, wq_chain, wp_call, wp_sl, wp_nopart, wp_part, wp_bm, wp_iter, wp_rng1, wp_rng2, wp_lc, wp_bind, wp_ok, wp_up, Tg.set, setsD, List.getElem?_cons_zero, List.getElem?_cons_succ, List.set_cons_zero, List.set_cons_succ, List.length_cons, List.length_nil, and_self, if_true, reduceCtorEq, Nat.reduceAdd, List.map_cons, List.map_nil, Nat.reduceSub, List.replicate_succ, List.replicate_zero, List.cons_append, List.nil_append, ux_add, ux_iadd, ux_sub, ux_mul, ux_div, ux_mod, ux_pow, ux_neg, ux_eqI, ux_neI, ux_eqS, ux_neS, ux_lt, ux_le, ux_gt, ux_ge, ux_abs, ux_max, ux_min, ux_intI, ux_intB, ux_lst, ux_tup, mulOk_iff, true_or, or_true, ux_lenT, ux_lenF, ux_t0, ux_t1, ux_t2, ux_t3, ux_t4, ux_t5, isB, decide_eq_true_eq, Bool.not_eq_true', decide_eq_false_iff_not, i62, true_and, and_true, if_false, Int.reduceLT, Int.reduceLE, Int.reduceAbs, Nat.reduceLT, Nat.reduceLeDiff, Nat.reducePow, Int.reducePow, Int.reduceToNat, Int.reduceNeg, Nat.reduceEqDiff, or_self, not_true, not_false_eq_true, Bool.not_true, Bool.not_false, decide_true, decide_false, Bool.false_eq_true, len_map1, app2, app3, List.append_assoc, List.length_append, Nat.zero_add, Nat.add_zero, get_newc, get_new1, get_new2, get_new3, set_newc, set_new1, set_new2, it_str, it_tup, it_frl, gx_it, gx_isLs, gx_isTx, gx_len, gx_ixI, gx_ixS, gx_getI, gx_getS, ws_storeP, ws_aug2P, gx_stI, gx_stS, gx_app, gx_pop, gx_rev, gx_cat, gx_catT, gx_sl, gx_slT, gx_slF, gx_join, gx_joinT, gx_tup, gx_tupT, gx_tupF, gx_lst, gx_lstT, gx_lstF, gx_all, gx_notInK, Mn.atI_last, Mn.ixN_last, Mn.atI_0, gx_mulL, gx_mulT, ux_isB, ux_notB, ux_isNN, ux_notNN, ux_isSN, ux_notSN, ux_isIN, ux_notIN, ux_isTN, ux_notTN, ux_isRN, ux_notRN, gx_sort, gx_dct, Mn.atI_1, Mn.atI_2, Mn.atI_3, List.length_map, set_lastM, set_lastL, List.getLast?_concat, List.dropLast_concat, gcn_str, gcn_int, gcn_bl, gcn_non, gcs_str, gcs_int, gcs_bl, gcs_non, gcn_tup, gcs_tup, gcn_lst, gcn_lst1, gcn_lst2, refsL_strs, refsL_nil, refsL_s, refsL_i, refsL_n, refsL_b, refsL_t, refsL_app, ux_slS, ux_addS, ux_iaddS, ux_lenS, ux_ixS, ux_inT2, ux_inT3, findK_nil, findK_cons, putKD_nil, putKD_cons, gx_rvL, gx_rvF, gx_rvT, gx_rvS, gx_repl, ws_no, ux_neB, ux_eqB, txsOf_map, ws_forE, keyOf_str, keyOf_int, joinTx_nil, List.foldl_cons, List.foldl_nil, ItF_cons, l2_roman]; repeat (refine And.intro (by omega) ?_))
  have L : ∀ (p : Mn.Tx × Nat) (e : Nat × Mn.Tx), 0 < e.1 → e.2.length ≤ 2 → p.1.length + 2 * p.2 ≤ 1000 → (romStep p e).1.length + 2 * (romStep p e).2 ≤ 1000 := by
    intro p e h1 h2 h3
    unfold romStep
    dsimp only
    rw [List.length_append, repT_len]
    have h4 := Nat.div_add_mod p.2 e.1
    have h5 : p.2 / e.1 * e.2.length ≤ p.2 / e.1 * 2 := Nat.mul_le_mul_left _ h2
    have h6 : p.2 / e.1 * 1 ≤ p.2 / e.1 * e.1 := Nat.mul_le_mul_left _ h1
    have h7 : p.2 / e.1 * e.1 = e.1 * (p.2 / e.1) := Nat.mul_comm _ _
    omega
  have a0 : (([], v) : Mn.Tx × Nat).1.length + 2 * (([], v) : Mn.Tx × Nat).2 ≤ 1000 := by
    show 0 + 2 * v ≤ 1000
    omega
  have a1 := L ([], v) (10, [120]) (by decide) (by decide) a0
  have a2 := L _ (9, [105, 120]) (by decide) (by decide) a1
  have a3 := L _ (5, [118]) (by decide) (by decide) a2
  have a4 := L _ (4, [105, 118]) (by decide) (by decide) a3
  refine roman_while (s := 10) (by decide) (by decide) a0 ?_
  refine roman_while (s := 9) (by decide) (by decide) a1 ?_
  refine roman_while (s := 5) (by decide) (by decide) a2 ?_
  refine roman_while (s := 4) (by decide) (by decide) a3 ?_
  refine roman_while (s := 1) (by decide) (by decide) a4 ?_
  ((try dsimp only); try simp -implicitDefEqProofs only [ws_seq, ws_set, ws_par2, ws_exp, ws_ret, ws_if, ws_tg, ws_nil, ws_aug, thenR_nx, thenR_ret, thenR_bk, thenR_ct, wp_var, wp_con, wp_bin, wp_un, wp_nil, wp_cons, wp_fn, wp_test, wp_and, wp_or, wp_not, wq_andV, wq_orV, bIf_bl, ite_both, ux_mulST, wp_notV, wp_if, wq_chain, wp_call, wp_sl, wp_nopart, wp_part, wp_bm, wp_iter, wp_rng1, wp_rng2, wp_lc, wp_bind, wp_ok, wp_up, Tg.set, setsD, List.getElem?_cons_zero, List.getElem?_cons_succ, List.set_cons_zero, List.set_cons_succ, List.length_cons, List.length_nil, and_self, if_true, reduceCtorEq, Nat.reduceAdd, List.map_cons, List.map_nil, Nat.reduceSub, List.replicate_succ, List.replicate_zero, List.cons_append, List.nil_append, ux_add, ux_iadd, ux_sub, ux_mul, ux_div, ux_mod, ux_pow, ux_neg, ux_eqI, ux_neI, ux_eqS, ux_neS, ux_lt, ux_le, ux_gt, ux_ge, ux_abs, ux_max, ux_min, ux_intI, ux_intB, ux_lst, ux_tup, mulOk_iff, true_or, or_true, ux_lenT, ux_lenF, ux_t0, ux_t1, ux_t2, ux_t3, ux_t4, ux_t5, isB, decide_eq_true_eq, Bool.not_eq_true', decide_eq_false_iff_not, i62, true_and, and_true, if_false, Int.reduceLT, Int.reduceLE, Int.reduceAbs, Nat.reduceLT, Nat.reduceLeDiff, Nat.reducePow, Int.reducePow, Int.reduceToNat, Int.reduceNeg, Nat.reduceEqDiff, or_self, not_true, not_false_eq_true, Bool.not_true, Bool.not_false, decide_true, decide_false, Bool.false_eq_true, len_map1, app2, app3, List.append_assoc, List.length_append, Nat.zero_add, Nat.add_zero, get_newc, get_new1, get_new2, get_new3, set_newc, set_new1, set_new2, it_str, it_tup, it_frl, gx_it, gx_isLs, gx_isTx, gx_len, gx_ixI, gx_ixS, gx_getI, gx_getS, ws_storeP, ws_aug2P, gx_stI, gx_stS, gx_app, gx_pop, gx_rev, gx_cat, gx_catT, gx_sl, gx_slT, gx_slF, gx_join, gx_joinT, gx_tup, gx_tupT, gx_tupF, gx_lst, gx_lstT, gx_lstF, gx_all, gx_notInK, Mn.atI_last, Mn.ixN_last, Mn.atI_0, gx_mulL, gx_mulT, ux_isB, ux_notB, ux_isNN, ux_notNN, ux_isSN, ux_notSN, ux_isIN, ux_notIN, ux_isTN, ux_notTN, ux_isRN, ux_notRN, gx_sort, gx_dct, Mn.atI_1, Mn.atI_2, Mn.atI_3, List.length_map, set_lastM, set_lastL, List.getLast?_concat, List.dropLast_concat, gcn_str, gcn_int, gcn_bl, gcn_non, gcs_str, gcs_int, gcs_bl, gcs_non, gcn_tup, gcs_tup, gcn_lst, gcn_lst1, gcn_lst2, refsL_strs, refsL_nil, refsL_s, refsL_i, refsL_n, refsL_b, refsL_t, refsL_app, ux_slS, ux_addS, ux_iaddS, ux_lenS, ux_ixS, ux_inT2, ux_inT3, findK_nil, findK_cons, putKD_nil, putKD_cons, gx_rvL, gx_rvF, gx_rvT, gx_rvS, gx_repl, ws_no, ux_neB, ux_eqB, txsOf_map, ws_forE, keyOf_str, keyOf_int, joinTx_nil, List.foldl_cons, List.foldl_nil, ItF_nil]; repeat (refine And.intro (by omega) ?_))
  have e : romanT v = repT (v / 10) [120] ++ (repT (v % 10 / 9) [105, 120] ++ (repT (v % 10 % 9 / 5) [118] ++ (repT (v % 10 % 9 % 5 / 4) [105, 118] ++ repT (v % 10 % 9 % 5 % 4 / 1) [105]))) := by
    simp [romanT, romTab, romStep]
  rw [← e]
  exact q
theorem shown_then {m : MH} {v : Int} {f : Mn.Tx} {P : D → MH → Prop} (hv : -1000000000 ≤ v ∧ v ≤ 1000000000) (hf : f = [49] ∨ f = [48, 49] ∨ f = [97] ∨ f = [105]) (q : P (.str (shownT v f)) m) : wp (f_shown [.int v, .str f] m) P := by
  apply wp_fnD
  unfold b_shown
  have s1 := ux_strI (m := m) (i := v) (P := fun d m1 => P (gc m d m1).1 (gc m d m1).2) (by omega) (by omega)
  have hl : (figs v.natAbs).length ≤ 10 := (figs_len (by decide)).mpr (by omega)
  rcases hf with rfl | rfl | rfl | rfl
  · ((try dsimp only); try simp -implicitDefEqProofs only [ws_seq, ws_set, ws_par2, ws_exp, ws_ret, ws_if, ws_tg, ws_nil, ws_aug, thenR_nx, thenR_ret, thenR_bk, thenR_ct, wp_var, wp_con, wp_bin, wp_un, wp_nil, wp_cons, wp_fn, wp_test, wp_and, wp_or, wp_not, wq_andV, wq_orV, bIf_bl, ite_both, ux_mulST, wp_notV, wp_if, wq_chain, wp_call, wp_sl, wp_nopart, wp_part, wp_bm, wp_iter, wp_rng1, wp_rng2, wp_lc, wp_bind, wp_ok, wp_up, Tg.set, setsD, List.getElem?_cons_zero, List.getElem?_cons_succ, List.set_cons_zero, List.set_cons_succ, List.length_cons, List.length_nil, and_self, if_true, reduceCtorEq, Nat.reduceAdd, List.map_cons, List.map_nil, Nat.reduceSub, List.replicate_succ, List.replicate_zero, List.cons_append, List.nil_append, ux_add, ux_iadd, ux_sub, ux_mul, ux_div, ux_mod, ux_pow, ux_neg, ux_eqI, ux_neI, ux_eqS, ux_neS, ux_lt, ux_le, ux_gt, ux_ge, ux_abs, ux_max, ux_min, ux_intI, ux_intB, ux_lst, ux_tup, mulOk_iff, true_or, or_true, ux_lenT, ux_lenF, ux_t0, ux_t1, ux_t2, ux_t3, ux_t4, ux_t5, isB, decide_eq_true_eq, Bool.not_eq_true', decide_eq_false_iff_not, i62, true_and, and_true, if_false, Int.reduceLT, Int.reduceLE, Int.reduceAbs, Nat.reduceLT, Nat.reduceLeDiff, Nat.reducePow, Int.reducePow, Int.reduceToNat, Int.reduceNeg, Nat.reduceEqDiff, or_self, not_true, not_false_eq_true, Bool.not_true, Bool.not_false, decide_true, decide_false, Bool.false_eq_true, len_map1, app2, app3, List.append_assoc, List.length_append, Nat.zero_add, Nat.add_zero, get_newc, get_new1, get_new2, get_new3, set_newc, set_new1, set_new2, it_str, it_tup, it_frl, gx_it, gx_isLs, gx_isTx, gx_len, gx_ixI, gx_ixS, gx_getI, gx_getS, ws_storeP, ws_aug2P, gx_stI, gx_stS, gx_app, gx_pop, gx_rev, gx_cat, gx_catT, gx_sl, gx_slT, gx_slF, gx_join, gx_joinT, gx_tup, gx_tupT, gx_tupF, gx_lst, gx_lstT, gx_lstF, gx_all, gx_notInK, Mn.atI_last, Mn.ixN_last, Mn.atI_0, gx_mulL, gx_mulT, ux_isB, ux_notB, ux_isNN, ux_notNN, ux_isSN, ux_notSN, ux_isIN, ux_notIN, ux_isTN, ux_notTN, ux_isRN, ux_notRN, gx_sort, gx_dct, Mn.atI_1, Mn.atI_2, Mn.atI_3, List.length_map, set_lastM, set_lastL, List.getLast?_concat, List.dropLast_concat, gcn_str, gcn_int, gcn_bl, gcn_non, gcs_str, gcs_int, gcs_bl, gcs_non, gcn_tup, gcs_tup, gcn_lst, gcn_lst1, gcn_lst2, refsL_strs, refsL_nil, refsL_s, refsL_i, refsL_n, refsL_b, refsL_t, refsL_app, ux_slS, ux_addS, ux_iaddS, ux_lenS, ux_ixS, ux_inT2, ux_inT3, findK_nil, findK_cons, putKD_nil, putKD_cons, gx_rvL, gx_rvF, gx_rvT, gx_rvS, gx_repl, ws_no, ux_neB, ux_eqB, txsOf_map, ws_forE, keyOf_str, keyOf_int, joinTx_nil, List.foldl_cons, List.foldl_nil, pD, pks, Pk.get, List.drop_zero, List.drop_succ_cons, List.take_succ_cons, List.take_zero, s1, List.cons.injEq, Nat.reduceEqDiff, false_and, and_false]; repeat (refine And.intro (by omega) ?_))
    simpa [shownT] using q
  · ((try dsimp only); try simp -implicitDefEqProofs only [ws_seq, ws_set, ws_par2, ws_exp, ws_ret, ws_if, ws_tg, ws_nil, ws_aug, thenR_nx, thenR_ret, thenR_bk, thenR_ct, wp_var, wp_con, wp_bin, wp_un, wp_nil, wp_cons, wp_fn, wp_test, wp_and, wp_or, wp_not, wq_andV, wq_orV, bIf_bl, ite_both, ux_mulST, wp_notV, wp_if, wq_chain, wp_call, wp_sl, wp_nopart, wp_part, wp_bm, wp_iter, wp_rng1, wp_rng2, wp_lc, wp_bind, wp_ok, wp_up, Tg.set, setsD, List.getElem?_cons_zero, List.getElem?_cons_succ, List.set_cons_zero, List.set_cons_succ, List.length_cons, List.length_nil, and_self, if_true, reduceCtorEq, Nat.reduceAdd, List.map_cons, List.map_nil, Nat.reduceSub, List.replicate_succ, List.replicate_zero, List.cons_append, List.nil_append, ux_add, ux_iadd, ux_sub, ux_mul, ux_div, ux_mod, ux_pow, ux_neg, ux_eqI, ux_neI, ux_eqS, ux_neS, ux_lt, ux_le, ux_gt, ux_ge, ux_abs, ux_max, ux_min, ux_intI, ux_intB, ux_lst, ux_tup, mulOk_iff, true_or, or_true, ux_lenT, ux_lenF, ux_t0, ux_t1, ux_t2, ux_t3, ux_t4, ux_t5, isB, decide_eq_true_eq, Bool.not_eq_true', decide_eq_false_iff_not, i62, true_and, and_true, if_false, Int.reduceLT, Int.reduceLE, Int.reduceAbs, Nat.reduceLT, Nat.reduceLeDiff, Nat.reducePow, Int.reducePow, Int.reduceToNat, Int.reduceNeg, Nat.reduceEqDiff, or_self, not_true, not_false_eq_true, Bool.not_true, Bool.not_false, decide_true, decide_false, Bool.false_eq_true, len_map1, app2, app3, List.append_assoc, List.length_append, Nat.zero_add, Nat.add_zero, get_newc, get_new1, get_new2, get_new3, set_newc, set_new1, set_new2, it_str, it_tup, it_frl, gx_it, gx_isLs, gx_isTx, gx_len, gx_ixI, gx_ixS, gx_getI, gx_getS, ws_storeP, ws_aug2P, gx_stI, gx_stS, gx_app, gx_pop, gx_rev, gx_cat, gx_catT, gx_sl, gx_slT, gx_slF, gx_join, gx_joinT, gx_tup, gx_tupT, gx_tupF, gx_lst, gx_lstT, gx_lstF, gx_all, gx_notInK, Mn.atI_last, Mn.ixN_last, Mn.atI_0, gx_mulL, gx_mulT, ux_isB, ux_notB, ux_isNN, ux_notNN, ux_isSN, ux_notSN, ux_isIN, ux_notIN, ux_isTN, ux_notTN, ux_isRN, ux_notRN, gx_sort, gx_dct, Mn.atI_1, Mn.atI_2, Mn.atI_3, List.length_map, set_lastM, set_lastL, List.getLast?_concat, List.dropLast_concat, gcn_str, gcn_int, gcn_bl, gcn_non, gcs_str, gcs_int, gcs_bl, gcs_non, gcn_tup, gcs_tup, gcn_lst, gcn_lst1, gcn_lst2, refsL_strs, refsL_nil, refsL_s, refsL_i, refsL_n, refsL_b, refsL_t, refsL_app, ux_slS, ux_addS, ux_iaddS, ux_lenS, ux_ixS, ux_inT2, ux_inT3, findK_nil, findK_cons, putKD_nil, putKD_cons, gx_rvL, gx_rvF, gx_rvT, gx_rvS, gx_repl, ws_no, ux_neB, ux_eqB, txsOf_map, ws_forE, keyOf_str, keyOf_int, joinTx_nil, List.foldl_cons, List.foldl_nil, pD, pks, Pk.get, List.drop_zero, List.drop_succ_cons, List.take_succ_cons, List.take_zero, s1, List.cons.injEq, Nat.reduceEqDiff, false_and, and_false]; repeat (refine And.intro (by omega) ?_))
    unfold shownT at q
    simp only [reduceCtorEq, List.cons.injEq, Nat.reduceEqDiff, false_and, if_false, and_false, true_and] at q
    by_cases h1 : -10 < v
    · rw [if_pos h1]
      by_cases h2 : v < 10
      · rw [if_pos h2]
        rw [if_pos ⟨h1, h2⟩] at q
        rw [ux_strI (by split <;> omega) (by split <;> omega), ux_strI (by split <;> omega) (by split <;> omega)]
        ((try dsimp only); try simp -implicitDefEqProofs only [ws_seq, ws_set, ws_par2, ws_exp, ws_ret, ws_if, ws_tg, ws_nil, ws_aug, thenR_nx, thenR_ret, thenR_bk, thenR_ct, wp_var, wp_con, wp_bin, wp_un, wp_nil, wp_cons, wp_fn, wp_test, wp_and, wp_or, wp_not, wq_andV, wq_orV, bIf_bl, ite_both, ux_mulST, wp_notV, wp_if, wq_chain, wp_call, wp_sl, wp_nopart, wp_part, wp_bm, wp_iter, wp_rng1, wp_rng2, wp_lc, wp_bind, wp_ok, wp_up, Tg.set, setsD, List.getElem?_cons_zero, List.getElem?_cons_succ, List.set_cons_zero, List.set_cons_succ, List.length_cons, List.length_nil, and_self, if_true, reduceCtorEq, Nat.reduceAdd, List.map_cons, List.map_nil, Nat.reduceSub, List.replicate_succ, List.replicate_zero, List.cons_append, List.nil_append, ux_add, ux_iadd, ux_sub, ux_mul, ux_div, ux_mod, ux_pow, ux_neg, ux_eqI, ux_neI, ux_eqS, ux_neS, ux_lt, ux_le, ux_gt, ux_ge, ux_abs, ux_max, ux_min, ux_intI, ux_intB, ux_lst, ux_tup, mulOk_iff, true_or, or_true, ux_lenT, ux_lenF, ux_t0, ux_t1, ux_t2, ux_t3, ux_t4, ux_t5, isB, decide_eq_true_eq, Bool.not_eq_true', decide_eq_false_iff_not, i62, true_and, and_true, if_false, Int.reduceLT, Int.reduceLE, Int.reduceAbs, Nat.reduceLT, Nat.reduceLeDiff, Nat.reducePow, Int.reducePow, Int.reduceToNat, Int.reduceNeg, Nat.reduceEqDiff, or_self, not_true, not_false_eq_true, Bool.not_true, Bool.not_false, decide_true, decide_false, Bool.false_eq_true, len_map1, app2, app3, List.append_assoc, List.length_append, Nat.zero_add, Nat.add_zero, get_newc, get_new1, get_new2, get_new3, set_newc, set_new1, set_new2, it_str, it_tup, it_frl, gx_it, gx_isLs, gx_isTx, gx_len, gx_ixI, gx_ixS, gx_getI, gx_getS, ws_storeP, ws_aug2P, gx_stI, gx_stS, gx_app, gx_pop, gx_rev, gx_cat, gx_catT, gx_sl, gx_slT, gx_slF, gx_join, gx_joinT, gx_tup, gx_tupT, gx_tupF, gx_lst, gx_lstT, gx_lstF, gx_all, gx_notInK, Mn.atI_last, Mn.ixN_last, Mn.atI_0, gx_mulL, gx_mulT, ux_isB, ux_notB, ux_isNN, ux_notNN, ux_isSN, ux_notSN, ux_isIN, ux_notIN, ux_isTN, ux_notTN, ux_isRN, ux_notRN, gx_sort, gx_dct, Mn.atI_1, Mn.atI_2, Mn.atI_3, List.length_map, set_lastM, set_lastL, List.getLast?_concat, List.dropLast_concat, gcn_str, gcn_int, gcn_bl, gcn_non, gcs_str, gcs_int, gcs_bl, gcs_non, gcn_tup, gcs_tup, gcn_lst, gcn_lst1, gcn_lst2, refsL_strs, refsL_nil, refsL_s, refsL_i, refsL_n, refsL_b, refsL_t, refsL_app, ux_slS, ux_addS, ux_iaddS, ux_lenS, ux_ixS, ux_inT2, ux_inT3, findK_nil, findK_cons, putKD_nil, putKD_cons, gx_rvL, gx_rvF, gx_rvT, gx_rvS, gx_repl, ws_no, ux_neB, ux_eqB, txsOf_map, ws_forE, keyOf_str, keyOf_int, joinTx_nil, List.foldl_cons, List.foldl_nil, strInt_abs]; repeat (refine And.intro (by omega) ?_))
        split
        · rename_i h3
          rw [if_pos h3] at q
          exact ⟨by omega, q⟩
        · rename_i h3
          rw [if_neg h3] at q
          exact ⟨by omega, q⟩
      · rw [if_neg h2]
        rw [if_neg (by omega)] at q
        exact q
    · rw [if_neg h1]
      rw [if_neg (by omega)] at q
      exact q
  · ((try dsimp only); try simp -implicitDefEqProofs only [ws_seq, ws_set, ws_par2, ws_exp, ws_ret, ws_if, ws_tg, ws_nil, ws_aug, thenR_nx, thenR_ret, thenR_bk, thenR_ct, wp_var, wp_con, wp_bin, wp_un, wp_nil, wp_cons, wp_fn, wp_test, wp_and, wp_or, wp_not, wq_andV, wq_orV, bIf_bl, ite_both, ux_mulST, wp_notV, wp_if, wq_chain, wp_call, wp_sl, wp_nopart, wp_part, wp_bm, wp_iter, wp_rng1, wp_rng2, wp_lc, wp_bind, wp_ok, wp_up, Tg.set, setsD, List.getElem?_cons_zero, List.getElem?_cons_succ, List.set_cons_zero, List.set_cons_succ, List.length_cons, List.length_nil, and_self, if_true, reduceCtorEq, Nat.reduceAdd, List.map_cons, List.map_nil, Nat.reduceSub, List.replicate_succ, List.replicate_zero, List.cons_append, List.nil_append, ux_add, ux_iadd, ux_sub, ux_mul, ux_div, ux_mod, ux_pow, ux_neg, ux_eqI, ux_neI, ux_eqS, ux_neS, ux_lt, ux_le, ux_gt, ux_ge, ux_abs, ux_max, ux_min, ux_intI, ux_intB, ux_lst, ux_tup, mulOk_iff, true_or, or_true, ux_lenT, ux_lenF, ux_t0, ux_t1, ux_t2, ux_t3, ux_t4, ux_t5, isB, decide_eq_true_eq, Bool.not_eq_true', decide_eq_false_iff_not, i62, true_and, and_true, if_false, Int.reduceLT, Int.reduceLE, Int.reduceAbs, Nat.reduceLT, Nat.reduceLeDiff, Nat.reducePow, Int.reducePow, Int.reduceToNat, Int.reduceNeg, Nat.reduceEqDiff, or_self, not_true, not_false_eq_true, Bool.not_true, Bool.not_false, decide_true, decide_false, Bool.false_eq_true, len_map1, app2, app3, List.append_assoc, List.length_append, Nat.zero_add, Nat.add_zero, get_newc, get_new1, get_new2, get_new3, set_newc, set_new1, set_new2, it_str, it_tup, it_frl, gx_it, gx_isLs, gx_isTx, gx_len, gx_ixI, gx_ixS, gx_getI, gx_getS, ws_storeP, ws_aug2P, gx_stI, gx_stS, gx_app, gx_pop, gx_rev, gx_cat, gx_catT, gx_sl, gx_slT, gx_slF, gx_join, gx_joinT, gx_tup, gx_tupT, gx_tupF, gx_lst, gx_lstT, gx_lstF, gx_all, gx_notInK, Mn.atI_last, Mn.ixN_last, Mn.atI_0, gx_mulL, gx_mulT, ux_isB, ux_notB, ux_isNN, ux_notNN, ux_isSN, ux_notSN, ux_isIN, ux_notIN, ux_isTN, ux_notTN, ux_isRN, ux_notRN, gx_sort, gx_dct, Mn.atI_1, Mn.atI_2, Mn.atI_3, List.length_map, set_lastM, set_lastL, List.getLast?_concat, List.dropLast_concat, gcn_str, gcn_int, gcn_bl, gcn_non, gcs_str, gcs_int, gcs_bl, gcs_non, gcn_tup, gcs_tup, gcn_lst, gcn_lst1, gcn_lst2, refsL_strs, refsL_nil, refsL_s, refsL_i, refsL_n, refsL_b, refsL_t, refsL_app, ux_slS, ux_addS, ux_iaddS, ux_lenS, ux_ixS, ux_inT2, ux_inT3, findK_nil, findK_cons, putKD_nil, putKD_cons, gx_rvL, gx_rvF, gx_rvT, gx_rvS, gx_repl, ws_no, ux_neB, ux_eqB, txsOf_map, ws_forE, keyOf_str, keyOf_int, joinTx_nil, List.foldl_cons, List.foldl_nil, pD, pks, Pk.get, List.drop_zero, List.drop_succ_cons, List.take_succ_cons, List.take_zero, s1, List.cons.injEq, Nat.reduceEqDiff, false_and, and_false]; repeat (refine And.intro (by omega) ?_))
    unfold shownT at q
    simp only [reduceCtorEq, List.cons.injEq, Nat.reduceEqDiff, false_and, if_false, and_false, true_and] at q
    by_cases h1 : 1 ≤ v
    · rw [if_pos h1]
      by_cases h2 : v ≤ 26
      · rw [if_pos (show v ≤ ((26 : Nat) : Int) from h2)]
        rw [if_pos ⟨h1, h2⟩] at q
        rw [ux_ixS (by omega) (by show v - 1 < 26; omega) (by decide)]
        ((try dsimp only); try simp -implicitDefEqProofs only [ws_seq, ws_set, ws_par2, ws_exp, ws_ret, ws_if, ws_tg, ws_nil, ws_aug, thenR_nx, thenR_ret, thenR_bk, thenR_ct, wp_var, wp_con, wp_bin, wp_un, wp_nil, wp_cons, wp_fn, wp_test, wp_and, wp_or, wp_not, wq_andV, wq_orV, bIf_bl, ite_both, ux_mulST, wp_notV, wp_if, wq_chain, wp_call, wp_sl, wp_nopart, wp_part, wp_bm, wp_iter, wp_rng1, wp_rng2, wp_lc, wp_bind, wp_ok, wp_up, Tg.set, setsD, List.getElem?_cons_zero, List.getElem?_cons_succ, List.set_cons_zero, List.set_cons_succ, List.length_cons, List.length_nil, and_self, if_true, reduceCtorEq, Nat.reduceAdd, List.map_cons, List.map_nil, Nat.reduceSub, List.replicate_succ, List.replicate_zero, List.cons_append, List.nil_append, ux_add, ux_iadd, ux_sub, ux_mul, ux_div, ux_mod, ux_pow, ux_neg, ux_eqI, ux_neI, ux_eqS, ux_neS, ux_lt, ux_le, ux_gt, ux_ge, ux_abs, ux_max, ux_min, ux_intI, ux_intB, ux_lst, ux_tup, mulOk_iff, true_or, or_true, ux_lenT, ux_lenF, ux_t0, ux_t1, ux_t2, ux_t3, ux_t4, ux_t5, isB, decide_eq_true_eq, Bool.not_eq_true', decide_eq_false_iff_not, i62, true_and, and_true, if_false, Int.reduceLT, Int.reduceLE, Int.reduceAbs, Nat.reduceLT, Nat.reduceLeDiff, Nat.reducePow, Int.reducePow, Int.reduceToNat, Int.reduceNeg, Nat.reduceEqDiff, or_self, not_true, not_false_eq_true, Bool.not_true, Bool.not_false, decide_true, decide_false, Bool.false_eq_true, len_map1, app2, app3, List.append_assoc, List.length_append, Nat.zero_add, Nat.add_zero, get_newc, get_new1, get_new2, get_new3, set_newc, set_new1, set_new2, it_str, it_tup, it_frl, gx_it, gx_isLs, gx_isTx, gx_len, gx_ixI, gx_ixS, gx_getI, gx_getS, ws_storeP, ws_aug2P, gx_stI, gx_stS, gx_app, gx_pop, gx_rev, gx_cat, gx_catT, gx_sl, gx_slT, gx_slF, gx_join, gx_joinT, gx_tup, gx_tupT, gx_tupF, gx_lst, gx_lstT, gx_lstF, gx_all, gx_notInK, Mn.atI_last, Mn.ixN_last, Mn.atI_0, gx_mulL, gx_mulT, ux_isB, ux_notB, ux_isNN, ux_notNN, ux_isSN, ux_notSN, ux_isIN, ux_notIN, ux_isTN, ux_notTN, ux_isRN, ux_notRN, gx_sort, gx_dct, Mn.atI_1, Mn.atI_2, Mn.atI_3, List.length_map, set_lastM, set_lastL, List.getLast?_concat, List.dropLast_concat, gcn_str, gcn_int, gcn_bl, gcn_non, gcs_str, gcs_int, gcs_bl, gcs_non, gcn_tup, gcs_tup, gcn_lst, gcn_lst1, gcn_lst2, refsL_strs, refsL_nil, refsL_s, refsL_i, refsL_n, refsL_b, refsL_t, refsL_app, ux_slS, ux_addS, ux_iaddS, ux_lenS, ux_ixS, ux_inT2, ux_inT3, findK_nil, findK_cons, putKD_nil, putKD_cons, gx_rvL, gx_rvF, gx_rvT, gx_rvS, gx_repl, ws_no, ux_neB, ux_eqB, txsOf_map, ws_forE, keyOf_str, keyOf_int, joinTx_nil, List.foldl_cons, List.foldl_nil]; repeat (refine And.intro (by omega) ?_))
        exact q
      · rw [if_neg (show ¬ v ≤ ((26 : Nat) : Int) from h2)]
        rw [if_neg (by omega)] at q
        exact q
    · rw [if_neg h1]
      rw [if_neg (by omega)] at q
      exact q
  · ((try dsimp only); try simp -implicitDefEqProofs only [ws_seq, ws_set, ws_par2, ws_exp, ws_ret, ws_if, ws_tg, ws_nil, ws_aug, thenR_nx, thenR_ret, thenR_bk, thenR_ct, wp_var, wp_con, wp_bin, wp_un, wp_nil, wp_cons, wp_fn, wp_test, wp_and, wp_or, wp_not, wq_andV, wq_orV, bIf_bl, ite_both, ux_mulST, wp_notV, wp_if, wq_chain, wp_call, wp_sl, wp_nopart, wp_part, wp_bm, wp_iter, wp_rng1, wp_rng2, wp_lc, wp_bind, wp_ok, wp_up, Tg.set, setsD, List.getElem?_cons_zero, List.getElem?_cons_succ, List.set_cons_zero, List.set_cons_succ, List.length_cons, List.length_nil, and_self, if_true, reduceCtorEq, Nat.reduceAdd, List.map_cons, List.map_nil, Nat.reduceSub, List.replicate_succ, List.replicate_zero, List.cons_append, List.nil_append, ux_add, ux_iadd, ux_sub, ux_mul, ux_div, ux_mod, ux_pow, ux_neg, ux_eqI, ux_neI, ux_eqS, ux_neS, ux_lt, ux_le, ux_gt, ux_ge, ux_abs, ux_max, ux_min, ux_intI, ux_intB, ux_lst, ux_tup, mulOk_iff, true_or, or_true, ux_lenT, ux_lenF, ux_t0, ux_t1, ux_t2, ux_t3, ux_t4, ux_t5, isB, decide_eq_true_eq, Bool.not_eq_true', decide_eq_false_iff_not, i62, true_and, and_true, if_false, Int.reduceLT, Int.reduceLE, Int.reduceAbs, Nat.reduceLT, Nat.reduceLeDiff, Nat.reducePow, Int.reducePow, Int.reduceToNat, Int.reduceNeg, Nat.reduceEqDiff, or_self, not_true, not_false_eq_true, Bool.not_true, Bool.not_false, decide_true, decide_false, Bool.false_eq_true, len_map1, app2, app3, List.append_assoc, List.length_append, Nat.zero_add, Nat.add_zero, get_newc, get_new1, get_new2, get_new3, set_newc, set_new1, set_new2, it_str, it_tup, it_frl, gx_it, gx_isLs, gx_isTx, gx_len, gx_ixI, gx_ixS, gx_getI, gx_getS, ws_storeP, ws_aug2P, gx_stI, gx_stS, gx_app, gx_pop, gx_rev, gx_cat, gx_catT, gx_sl, gx_slT, gx_slF, gx_join, gx_joinT, gx_tup, gx_tupT, gx_tupF, gx_lst, gx_lstT, gx_lstF, gx_all, gx_notInK, Mn.atI_last, Mn.ixN_last, Mn.atI_0, gx_mulL, gx_mulT, ux_isB, ux_notB, ux_isNN, ux_notNN, ux_isSN, ux_notSN, ux_isIN, ux_notIN, ux_isTN, ux_notTN, ux_isRN, ux_notRN, gx_sort, gx_dct, Mn.atI_1, Mn.atI_2, Mn.atI_3, List.length_map, set_lastM, set_lastL, List.getLast?_concat, List.dropLast_concat, gcn_str, gcn_int, gcn_bl, gcn_non, gcs_str, gcs_int, gcs_bl, gcs_non, gcn_tup, gcs_tup, gcn_lst, gcn_lst1, gcn_lst2, refsL_strs, refsL_nil, refsL_s, refsL_i, refsL_n, refsL_b, refsL_t, refsL_app, ux_slS, ux_addS, ux_iaddS, ux_lenS, ux_ixS, ux_inT2, ux_inT3, findK_nil, findK_cons, putKD_nil, putKD_cons, gx_rvL, gx_rvF, gx_rvT, gx_rvS, gx_repl, ws_no, ux_neB, ux_eqB, txsOf_map, ws_forE, keyOf_str, keyOf_int, joinTx_nil, List.foldl_cons, List.foldl_nil, pD, pks, Pk.get, List.drop_zero, List.drop_succ_cons, List.take_succ_cons, List.take_zero, s1, List.cons.injEq, Nat.reduceEqDiff, false_and, and_false]; repeat (refine And.intro (by omega) ?_))
    unfold shownT at q
    simp only [reduceCtorEq, List.cons.injEq, Nat.reduceEqDiff, false_and, if_false, and_false, true_and] at q
    by_cases h1 : 1 ≤ v
    · rw [if_pos h1]
      by_cases h2 : v ≤ 39
      · rw [if_pos h2]
        rw [if_pos ⟨h1, h2⟩] at q
        have e : v = ((v.toNat : Nat) : Int) := by omega
        rw [e]
        refine roman_then (v := v.toNat) (by omega) ?_
        ((try dsimp only); try simp -implicitDefEqProofs only [ws_seq, ws_set, ws_par2, ws_exp, ws_ret, ws_if, ws_tg, ws_nil, ws_aug, thenR_nx, thenR_ret, thenR_bk, thenR_ct, wp_var, wp_con, wp_bin, wp_un, wp_nil, wp_cons, wp_fn, wp_test, wp_and, wp_or, wp_not, wq_andV, wq_orV, bIf_bl, ite_both, ux_mulST, wp_notV, wp_if, wq_chain, wp_call, wp_sl, wp_nopart, wp_part, wp_bm, wp_iter, wp_rng1, wp_rng2, wp_lc, wp_bind, wp_ok, wp_up, Tg.set, setsD, List.getElem?_cons_zero, List.getElem?_cons_succ, List.set_cons_zero, List.set_cons_succ, List.length_cons, List.length_nil, and_self, if_true, reduceCtorEq, Nat.reduceAdd, List.map_cons, List.map_nil, Nat.reduceSub, List.replicate_succ, List.replicate_zero, List.cons_append, List.nil_append, ux_add, ux_iadd, ux_sub, ux_mul, ux_div, ux_mod, ux_pow, ux_neg, ux_eqI, ux_neI, ux_eqS, ux_neS, ux_lt, ux_le, ux_gt, ux_ge, ux_abs, ux_max, ux_min, ux_intI, ux_intB, ux_lst, ux_tup, mulOk_iff, true_or, or_true, ux_lenT, ux_lenF, ux_t0, ux_t1, ux_t2, ux_t3, ux_t4, ux_t5, isB, decide_eq_true_eq, Bool.not_eq_true', decide_eq_false_iff_not, i62, true_and, and_true, if_false, Int.reduceLT, Int.reduceLE, Int.reduceAbs, Nat.reduceLT, Nat.reduceLeDiff, Nat.reducePow, Int.reducePow, Int.reduceToNat, Int.reduceNeg, Nat.reduceEqDiff, or_self, not_true, not_false_eq_true, Bool.not_true, Bool.not_false, decide_true, decide_false, Bool.false_eq_true, len_map1, app2, app3, List.append_assoc, List.length_append, Nat.zero_add, Nat.add_zero, get_newc, get_new1, get_new2, get_new3, set_newc, set_new1, set_new2, it_str, it_tup, it_frl, gx_it, gx_isLs, gx_isTx, gx_len, gx_ixI, gx_ixS, gx_getI, gx_getS, ws_storeP, ws_aug2P, gx_stI, gx_stS, gx_app, gx_pop, gx_rev, gx_cat, gx_catT, gx_sl, gx_slT, gx_slF, gx_join, gx_joinT, gx_tup, gx_tupT, gx_tupF, gx_lst, gx_lstT, gx_lstF, gx_all, gx_notInK, Mn.atI_last, Mn.ixN_last, Mn.atI_0, gx_mulL, gx_mulT, ux_isB, ux_notB, ux_isNN, ux_notNN, ux_isSN, ux_notSN, ux_isIN, ux_notIN, ux_isTN, ux_notTN, ux_isRN, ux_notRN, gx_sort, gx_dct, Mn.atI_1, Mn.atI_2, Mn.atI_3, List.length_map, set_lastM, set_lastL, List.getLast?_concat, List.dropLast_concat, gcn_str, gcn_int, gcn_bl, gcn_non, gcs_str, gcs_int, gcs_bl, gcs_non, gcn_tup, gcs_tup, gcn_lst, gcn_lst1, gcn_lst2, refsL_strs, refsL_nil, refsL_s, refsL_i, refsL_n, refsL_b, refsL_t, refsL_app, ux_slS, ux_addS, ux_iaddS, ux_lenS, ux_ixS, ux_inT2, ux_inT3, findK_nil, findK_cons, putKD_nil, putKD_cons, gx_rvL, gx_rvF, gx_rvT, gx_rvS, gx_repl, ws_no, ux_neB, ux_eqB, txsOf_map, ws_forE, keyOf_str, keyOf_int, joinTx_nil, List.foldl_cons, List.foldl_nil]; repeat (refine And.intro (by omega) ?_))
        exact q
      · rw [if_neg h2]
        rw [if_neg (by omega)] at q
        exact q
    · rw [if_neg h1]
      rw [if_neg (by omega)] at q
      exact q
end Lw
end

section
namespace Lw
open PySem PySem.Spec PyProof.Rows L2 Mn
theorem romanT_ok : ∀ n, n < 40 → (romanT n).length ≤ 20 ∧ ∀ c ∈ romanT n, c < 0x110000 := by decide +kernel
theorem shownT_ok {v : Int} {f : Mn.Tx} (hv : -1000000000 ≤ v ∧ v ≤ 1000000000) : (shownT v f).length ≤ 20 ∧ ∀ c ∈ shownT v f, c < 0x110000 := by
  have hl : (figs v.natAbs).length ≤ 10 := (figs_len (by decide)).mpr (by omega)
  have hm := figs_lt v.natAbs
  unfold shownT
  split
  · refine ⟨by simp, fun c hc => ?_⟩
    rw [List.mem_singleton.mp hc]
    have : ∀ i, i < 26 → abc.getD i 0 < 0x110000 := by decide
    exact this _ (by omega)
  · split
    · exact romanT_ok _ (by omega)
    · split
      · refine ⟨by simp; split <;> simp <;> omega, fun c hc => ?_⟩
        rcases List.mem_append.mp hc with hc | hc
        · rcases List.mem_append.mp hc with hc | hc
          · split at hc
            · rw [List.mem_singleton.mp hc]
              decide
            · simp at hc
          · rw [List.mem_singleton.mp hc]
            decide
        · exact hm c hc
      · rw [strInt_eq]
        refine ⟨by simp; split <;> simp <;> omega, fun c hc => ?_⟩
        rcases List.mem_append.mp hc with hc | hc
        · split at hc
          · rw [List.mem_singleton.mp hc]
            decide
          · simp at hc
        · exact hm c hc
end Lw
end

section
namespace Lw
open PySem PySem.Spec PyProof.Rows L2 Mn
set_option maxHeartbeats 2000000
/-- a name: so many small letters at least, six at most -/
def nameT (x : Mn.Tx) (few : Int) : Bool := decide (few ≤ x.length) && (decide ((x.length : Int) ≤ 6) && x.all fun c => decide (c ∈ abc))
theorem all_abc (x : Mn.Tx) : (x.map fun c => decide (c ∈ abc)).all id = x.all fun c => decide (c ∈ abc) := by
  rw [List.all_map]
  rfl
def abcD : D → Bool
  | .str [c] => decide (c ∈ abc)
  | _ => false
theorem is_name_then {m : MH} {x : Mn.Tx} {few : Int} {P : D → MH → Prop} (x1 : x.length ≤ 1000) (q : P (.bl (nameT x few)) m) : wp (f_is_name [.str x, .int few] m) P := by
  apply wp_fnD
  unfold b_is_name
  unfold nameT at q
  ((try dsimp only); try simp -implicitDefEqProofs only [ws_seq, ws_set, ws_par2, ws_exp, ws_ret, ws_if, ws_tg, ws_nil, ws_aug, thenR_nx, thenR_ret, thenR_bk, thenR_ct, wp_var, wp_con, wp_bin, wp_un, wp_nil, wp_cons, wp_fn, wp_test, wp_and, wp_or, wp_not, wq_andV, wq_orV, bIf_bl, ite_both, ux_mulST, wp_notV, wp_if, wq_chain, wp_call, wp_sl, wp_nopart, wp_part, wp_bm, wp_iter, wp_rng1, wp_rng2, wp_lc, wp_bind, wp_ok, wp_up, Tg.set, setsD, List.getElem?_cons_zero, List.getElem?_cons_succ, List.set_cons_zero, List.set_cons_succ, List.length_cons, List.length_nil, and_self, if_true, reduceCtorEq, Nat.reduceAdd, List.map_cons, List.map_nil, Nat.reduceSub, List.replicate_succ, List.replicate_zero, List.cons_append, List.nil_append, ux_add, ux_iadd, ux_sub, ux_mul, ux_div, ux_mod, ux_pow, ux_neg, ux_eqI, ux_neI, ux_eqS, ux_neS, ux_lt, ux_le, ux_gt, ux_ge, ux_abs, ux_max, ux_min, ux_intI, ux_intB, ux_lst, ux_tup, mulOk_iff, true_or, or_true, ux_lenT, ux_lenF, ux_t0, ux_t1, ux_t2, ux_t3, ux_t4, ux_t5, isB, decide_eq_true_eq, Bool.not_eq_true', decide_eq_false_iff_not, i62, true_and, and_true, if_false, Int.reduceLT, Int.reduceLE, Int.reduceAbs, Nat.reduceLT, Nat.reduceLeDiff, Nat.reducePow, Int.reducePow, Int.reduceToNat, Int.reduceNeg, Nat.reduceEqDiff, or_self, not_true, not_false_eq_true, Bool.not_true, Bool.not_false, decide_true, decide_false, Bool.false_eq_true, len_map1, app2, app3, List.append_assoc, List.length_append, Nat.zero_add, Nat.add_zero, get_newc, get_new1, get_new2, get_new3, set_newc, set_new1, set_new2, it_str, it_tup, it_frl, gx_it, gx_isLs, gx_isTx, gx_len, gx_ixI, gx_ixS, gx_getI, gx_getS, ws_storeP, ws_aug2P, gx_stI, gx_stS, gx_app, gx_pop, gx_rev, gx_cat, gx_catT, gx_sl, gx_slT, gx_slF, gx_join, gx_joinT, gx_tup, gx_tupT, gx_tupF, gx_lst, gx_lstT, gx_lstF, gx_all, gx_notInK, Mn.atI_last, Mn.ixN_last, Mn.atI_0, gx_mulL, gx_mulT, ux_isB, ux_notB, ux_isNN, ux_notNN, ux_isSN, ux_notSN, ux_isIN, ux_notIN, ux_isTN, ux_notTN, ux_isRN, ux_notRN, gx_sort, gx_dct, Mn.atI_1, Mn.atI_2, Mn.atI_3, List.length_map, set_lastM, set_lastL, List.getLast?_concat, List.dropLast_concat, gcn_str, gcn_int, gcn_bl, gcn_non, gcs_str, gcs_int, gcs_bl, gcs_non, gcn_tup, gcs_tup, gcn_lst, gcn_lst1, gcn_lst2, refsL_strs, refsL_nil, refsL_s, refsL_i, refsL_n, refsL_b, refsL_t, refsL_app, ux_slS, ux_addS, ux_iaddS, ux_lenS, ux_ixS, ux_inT2, ux_inT3, findK_nil, findK_cons, putKD_nil, putKD_cons, gx_rvL, gx_rvF, gx_rvT, gx_rvS, gx_repl, ws_no, ux_neB, ux_eqB, txsOf_map, ws_forE, keyOf_str, keyOf_int, joinTx_nil, List.foldl_cons, List.foldl_nil, pD, pks, Pk.get, List.drop_zero, List.drop_succ_cons, List.take_succ_cons, List.take_zero, ux_isiS]; repeat (refine And.intro (by omega) ?_))
  by_cases h1 : few ≤ x.length
  · rw [if_pos h1]
    rw [decide_eq_true h1, Bool.true_and] at q
    by_cases h2 : (x.length : Int) ≤ 6
    · rw [if_pos h2]
      rw [decide_eq_true h2, Bool.true_and] at q
      ((try dsimp only); try simp -implicitDefEqProofs only [ws_seq, ws_set, ws_par2, ws_exp, ws_ret, ws_if, ws_tg, ws_nil, ws_aug, thenR_nx, thenR_ret, thenR_bk, thenR_ct, wp_var, wp_con, wp_bin, wp_un, wp_nil, wp_cons, wp_fn, wp_test, wp_and, wp_or, wp_not, wq_andV, wq_orV, bIf_bl, ite_both, ux_mulST, wp_notV, wp_if, wq_chain, wp_call, wp_sl, wp_nopart, wp_part, wp_bm, wp_iter, wp_rng1, wp_rng2, wp_lc, wp_bind, wp_ok, wp_up, Tg.set, setsD, List.getElem?_cons_zero, List.getElem?_cons_succ, List.set_cons_zero, List.set_cons_succ, List.length_cons, List.length_nil, and_self, if_true, reduceCtorEq, Nat.reduceAdd, List.map_cons, List.map_nil, Nat.reduceSub, List.replicate_succ, List.replicate_zero, List.cons_append, List.nil_append, ux_add, ux_iadd, ux_sub, ux_mul, ux_div, ux_mod, ux_pow, ux_neg, ux_eqI, ux_neI, ux_eqS, ux_neS, ux_lt, ux_le, ux_gt, ux_ge, ux_abs, ux_max, ux_min, ux_intI, ux_intB, ux_lst, ux_tup, mulOk_iff, true_or, or_true, ux_lenT, ux_lenF, ux_t0, ux_t1, ux_t2, ux_t3, ux_t4, ux_t5, isB, decide_eq_true_eq, Bool.not_eq_true', decide_eq_false_iff_not, i62, true_and, and_true, if_false, Int.reduceLT, Int.reduceLE, Int.reduceAbs, Nat.reduceLT, Nat.reduceLeDiff, Nat.reducePow, Int.reducePow, Int.reduceToNat, Int.reduceNeg, Nat.reduceEqDiff, or_self, not_true, not_false_eq_true, Bool.not_true, Bool.not_false, decide_true, decide_false, Bool.false_eq_true, len_map1, app2, app3, List.append_assoc, List.length_append, Nat.zero_add, Nat.add_zero, get_newc, get_new1, get_new2, get_new3, set_newc, set_new1, set_new2, it_str, it_tup, it_frl, gx_it, gx_isLs, gx_isTx, gx_len, gx_ixI, gx_ixS, gx_getI, gx_getS, ws_storeP, ws_aug2P, gx_stI, gx_stS, gx_app, gx_pop, gx_rev, gx_cat, gx_catT, gx_sl, gx_slT, gx_slF, gx_join, gx_joinT, gx_tup, gx_tupT, gx_tupF, gx_lst, gx_lstT, gx_lstF, gx_all, gx_notInK, Mn.atI_last, Mn.ixN_last, Mn.atI_0, gx_mulL, gx_mulT, ux_isB, ux_notB, ux_isNN, ux_notNN, ux_isSN, ux_notSN, ux_isIN, ux_notIN, ux_isTN, ux_notTN, ux_isRN, ux_notRN, gx_sort, gx_dct, Mn.atI_1, Mn.atI_2, Mn.atI_3, List.length_map, set_lastM, set_lastL, List.getLast?_concat, List.dropLast_concat, gcn_str, gcn_int, gcn_bl, gcn_non, gcs_str, gcs_int, gcs_bl, gcs_non, gcn_tup, gcs_tup, gcn_lst, gcn_lst1, gcn_lst2, refsL_strs, refsL_nil, refsL_s, refsL_i, refsL_n, refsL_b, refsL_t, refsL_app, ux_slS, ux_addS, ux_iaddS, ux_lenS, ux_ixS, ux_inT2, ux_inT3, findK_nil, findK_cons, putKD_nil, putKD_cons, gx_rvL, gx_rvF, gx_rvT, gx_rvS, gx_repl, ws_no, ux_neB, ux_eqB, txsOf_map, ws_forE, keyOf_str, keyOf_int, joinTx_nil, List.foldl_cons, List.foldl_nil, wipeD]; repeat (refine And.intro (by omega) ?_))
      refine lc_pureE m (fun _ => true) (fun d => .bl (abcD d)) (xs := sgs x) rfl rfl (by unfold sgs; rw [List.length_map]; omega) fix_src ?_ ?_
      · intro d hd acc
        obtain ⟨c, rfl, hc⟩ := sgs_all hd
        refine ⟨_, rfl, ?_⟩
        show wp (gYes _ _) _
        unfold gYes
        ((try dsimp only); try simp -implicitDefEqProofs only [ws_seq, ws_set, ws_par2, ws_exp, ws_ret, ws_if, ws_tg, ws_nil, ws_aug, thenR_nx, thenR_ret, thenR_bk, thenR_ct, wp_var, wp_con, wp_bin, wp_un, wp_nil, wp_cons, wp_fn, wp_test, wp_and, wp_or, wp_not, wq_andV, wq_orV, bIf_bl, ite_both, ux_mulST, wp_notV, wp_if, wq_chain, wp_call, wp_sl, wp_nopart, wp_part, wp_bm, wp_iter, wp_rng1, wp_rng2, wp_lc, wp_bind, wp_ok, wp_up, Tg.set, setsD, List.getElem?_cons_zero, List.getElem?_cons_succ, List.set_cons_zero, List.set_cons_succ, List.length_cons, List.length_nil, and_self, if_true, reduceCtorEq, Nat.reduceAdd, List.map_cons, List.map_nil, Nat.reduceSub, List.replicate_succ, List.replicate_zero, List.cons_append, List.nil_append, ux_add, ux_iadd, ux_sub, ux_mul, ux_div, ux_mod, ux_pow, ux_neg, ux_eqI, ux_neI, ux_eqS, ux_neS, ux_lt, ux_le, ux_gt, ux_ge, ux_abs, ux_max, ux_min, ux_intI, ux_intB, ux_lst, ux_tup, mulOk_iff, true_or, or_true, ux_lenT, ux_lenF, ux_t0, ux_t1, ux_t2, ux_t3, ux_t4, ux_t5, isB, decide_eq_true_eq, Bool.not_eq_true', decide_eq_false_iff_not, i62, true_and, and_true, if_false, Int.reduceLT, Int.reduceLE, Int.reduceAbs, Nat.reduceLT, Nat.reduceLeDiff, Nat.reducePow, Int.reducePow, Int.reduceToNat, Int.reduceNeg, Nat.reduceEqDiff, or_self, not_true, not_false_eq_true, Bool.not_true, Bool.not_false, decide_true, decide_false, Bool.false_eq_true, len_map1, app2, app3, List.append_assoc, List.length_append, Nat.zero_add, Nat.add_zero, get_newc, get_new1, get_new2, get_new3, set_newc, set_new1, set_new2, it_str, it_tup, it_frl, gx_it, gx_isLs, gx_isTx, gx_len, gx_ixI, gx_ixS, gx_getI, gx_getS, ws_storeP, ws_aug2P, gx_stI, gx_stS, gx_app, gx_pop, gx_rev, gx_cat, gx_catT, gx_sl, gx_slT, gx_slF, gx_join, gx_joinT, gx_tup, gx_tupT, gx_tupF, gx_lst, gx_lstT, gx_lstF, gx_all, gx_notInK, Mn.atI_last, Mn.ixN_last, Mn.atI_0, gx_mulL, gx_mulT, ux_isB, ux_notB, ux_isNN, ux_notNN, ux_isSN, ux_notSN, ux_isIN, ux_notIN, ux_isTN, ux_notTN, ux_isRN, ux_notRN, gx_sort, gx_dct, Mn.atI_1, Mn.atI_2, Mn.atI_3, List.length_map, set_lastM, set_lastL, List.getLast?_concat, List.dropLast_concat, gcn_str, gcn_int, gcn_bl, gcn_non, gcs_str, gcs_int, gcs_bl, gcs_non, gcn_tup, gcs_tup, gcn_lst, gcn_lst1, gcn_lst2, refsL_strs, refsL_nil, refsL_s, refsL_i, refsL_n, refsL_b, refsL_t, refsL_app, ux_slS, ux_addS, ux_iaddS, ux_lenS, ux_ixS, ux_inT2, ux_inT3, findK_nil, findK_cons, putKD_nil, putKD_cons, gx_rvL, gx_rvF, gx_rvT, gx_rvS, gx_repl, ws_no, ux_neB, ux_eqB, txsOf_map, ws_forE, keyOf_str, keyOf_int, joinTx_nil, List.foldl_cons, List.foldl_nil, ux_inS]; repeat (refine And.intro (by omega) ?_))
        exact fun _ => rfl
      · have e : ((sgs x).filter fun _ => true).map (fun d => D.bl (abcD d)) = x.map fun c => D.bl (decide (c ∈ abc)) := by
          unfold sgs
          rw [filter_yes, List.map_map]
          rfl
        rw [e]
        ((try dsimp only); try simp -implicitDefEqProofs only [ws_seq, ws_set, ws_par2, ws_exp, ws_ret, ws_if, ws_tg, ws_nil, ws_aug, thenR_nx, thenR_ret, thenR_bk, thenR_ct, wp_var, wp_con, wp_bin, wp_un, wp_nil, wp_cons, wp_fn, wp_test, wp_and, wp_or, wp_not, wq_andV, wq_orV, bIf_bl, ite_both, ux_mulST, wp_notV, wp_if, wq_chain, wp_call, wp_sl, wp_nopart, wp_part, wp_bm, wp_iter, wp_rng1, wp_rng2, wp_lc, wp_bind, wp_ok, wp_up, Tg.set, setsD, List.getElem?_cons_zero, List.getElem?_cons_succ, List.set_cons_zero, List.set_cons_succ, List.length_cons, List.length_nil, and_self, if_true, reduceCtorEq, Nat.reduceAdd, List.map_cons, List.map_nil, Nat.reduceSub, List.replicate_succ, List.replicate_zero, List.cons_append, List.nil_append, ux_add, ux_iadd, ux_sub, ux_mul, ux_div, ux_mod, ux_pow, ux_neg, ux_eqI, ux_neI, ux_eqS, ux_neS, ux_lt, ux_le, ux_gt, ux_ge, ux_abs, ux_max, ux_min, ux_intI, ux_intB, ux_lst, ux_tup, mulOk_iff, true_or, or_true, ux_lenT, ux_lenF, ux_t0, ux_t1, ux_t2, ux_t3, ux_t4, ux_t5, isB, decide_eq_true_eq, Bool.not_eq_true', decide_eq_false_iff_not, i62, true_and, and_true, if_false, Int.reduceLT, Int.reduceLE, Int.reduceAbs, Nat.reduceLT, Nat.reduceLeDiff, Nat.reducePow, Int.reducePow, Int.reduceToNat, Int.reduceNeg, Nat.reduceEqDiff, or_self, not_true, not_false_eq_true, Bool.not_true, Bool.not_false, decide_true, decide_false, Bool.false_eq_true, len_map1, app2, app3, List.append_assoc, List.length_append, Nat.zero_add, Nat.add_zero, get_newc, get_new1, get_new2, get_new3, set_newc, set_new1, set_new2, it_str, it_tup, it_frl, gx_it, gx_isLs, gx_isTx, gx_len, gx_ixI, gx_ixS, gx_getI, gx_getS, ws_storeP, ws_aug2P, gx_stI, gx_stS, gx_app, gx_pop, gx_rev, gx_cat, gx_catT, gx_sl, gx_slT, gx_slF, gx_join, gx_joinT, gx_tup, gx_tupT, gx_tupF, gx_lst, gx_lstT, gx_lstF, gx_all, gx_notInK, Mn.atI_last, Mn.ixN_last, Mn.atI_0, gx_mulL, gx_mulT, ux_isB, ux_notB, ux_isNN, ux_notNN, ux_isSN, ux_notSN, ux_isIN, ux_notIN, ux_isTN, ux_notTN, ux_isRN, ux_notRN, gx_sort, gx_dct, Mn.atI_1, Mn.atI_2, Mn.atI_3, List.length_map, set_lastM, set_lastL, List.getLast?_concat, List.dropLast_concat, gcn_str, gcn_int, gcn_bl, gcn_non, gcs_str, gcs_int, gcs_bl, gcs_non, gcn_tup, gcs_tup, gcn_lst, gcn_lst1, gcn_lst2, refsL_strs, refsL_nil, refsL_s, refsL_i, refsL_n, refsL_b, refsL_t, refsL_app, ux_slS, ux_addS, ux_iaddS, ux_lenS, ux_ixS, ux_inT2, ux_inT3, findK_nil, findK_cons, putKD_nil, putKD_cons, gx_rvL, gx_rvF, gx_rvT, gx_rvS, gx_repl, ws_no, ux_neB, ux_eqB, txsOf_map, ws_forE, keyOf_str, keyOf_int, joinTx_nil, List.foldl_cons, List.foldl_nil, blsOf_map, all_abc]; repeat (refine And.intro (by omega) ?_))
        exact q
    · rw [if_neg h2]
      rw [decide_eq_false h2, Bool.false_and] at q
      ((try dsimp only); try simp -implicitDefEqProofs only [ws_seq, ws_set, ws_par2, ws_exp, ws_ret, ws_if, ws_tg, ws_nil, ws_aug, thenR_nx, thenR_ret, thenR_bk, thenR_ct, wp_var, wp_con, wp_bin, wp_un, wp_nil, wp_cons, wp_fn, wp_test, wp_and, wp_or, wp_not, wq_andV, wq_orV, bIf_bl, ite_both, ux_mulST, wp_notV, wp_if, wq_chain, wp_call, wp_sl, wp_nopart, wp_part, wp_bm, wp_iter, wp_rng1, wp_rng2, wp_lc, wp_bind, wp_ok, wp_up, Tg.set, setsD, List.getElem?_cons_zero, List.getElem?_cons_succ, List.set_cons_zero, List.set_cons_succ, List.length_cons, List.length_nil, and_self, if_true, reduceCtorEq, Nat.reduceAdd, List.map_cons, List.map_nil, Nat.reduceSub, List.replicate_succ, List.replicate_zero, List.cons_append, List.nil_append, ux_add, ux_iadd, ux_sub, ux_mul, ux_div, ux_mod, ux_pow, ux_neg, ux_eqI, ux_neI, ux_eqS, ux_neS, ux_lt, ux_le, ux_gt, ux_ge, ux_abs, ux_max, ux_min, ux_intI, ux_intB, ux_lst, ux_tup, mulOk_iff, true_or, or_true, ux_lenT, ux_lenF, ux_t0, ux_t1, ux_t2, ux_t3, ux_t4, ux_t5, isB, decide_eq_true_eq, Bool.not_eq_true', decide_eq_false_iff_not, i62, true_and, and_true, if_false, Int.reduceLT, Int.reduceLE, Int.reduceAbs, Nat.reduceLT, Nat.reduceLeDiff, Nat.reducePow, Int.reducePow, Int.reduceToNat, Int.reduceNeg, Nat.reduceEqDiff, or_self, not_true, not_false_eq_true, Bool.not_true, Bool.not_false, decide_true, decide_false, Bool.false_eq_true, len_map1, app2, app3, List.append_assoc, List.length_append, Nat.zero_add, Nat.add_zero, get_newc, get_new1, get_new2, get_new3, set_newc, set_new1, set_new2, it_str, it_tup, it_frl, gx_it, gx_isLs, gx_isTx, gx_len, gx_ixI, gx_ixS, gx_getI, gx_getS, ws_storeP, ws_aug2P, gx_stI, gx_stS, gx_app, gx_pop, gx_rev, gx_cat, gx_catT, gx_sl, gx_slT, gx_slF, gx_join, gx_joinT, gx_tup, gx_tupT, gx_tupF, gx_lst, gx_lstT, gx_lstF, gx_all, gx_notInK, Mn.atI_last, Mn.ixN_last, Mn.atI_0, gx_mulL, gx_mulT, ux_isB, ux_notB, ux_isNN, ux_notNN, ux_isSN, ux_notSN, ux_isIN, ux_notIN, ux_isTN, ux_notTN, ux_isRN, ux_notRN, gx_sort, gx_dct, Mn.atI_1, Mn.atI_2, Mn.atI_3, List.length_map, set_lastM, set_lastL, List.getLast?_concat, List.dropLast_concat, gcn_str, gcn_int, gcn_bl, gcn_non, gcs_str, gcs_int, gcs_bl, gcs_non, gcn_tup, gcs_tup, gcn_lst, gcn_lst1, gcn_lst2, refsL_strs, refsL_nil, refsL_s, refsL_i, refsL_n, refsL_b, refsL_t, refsL_app, ux_slS, ux_addS, ux_iaddS, ux_lenS, ux_ixS, ux_inT2, ux_inT3, findK_nil, findK_cons, putKD_nil, putKD_cons, gx_rvL, gx_rvF, gx_rvT, gx_rvS, gx_repl, ws_no, ux_neB, ux_eqB, txsOf_map, ws_forE, keyOf_str, keyOf_int, joinTx_nil, List.foldl_cons, List.foldl_nil]; repeat (refine And.intro (by omega) ?_))
      exact q
  · rw [if_neg h1]
    rw [decide_eq_false h1, Bool.false_and] at q
    ((try dsimp only); try simp -implicitDefEqProofs only [ws_seq, ws_set, ws_par2, ws_exp, ws_ret, ws_if, ws_tg, ws_nil, ws_aug, thenR_nx, thenR_ret, thenR_bk, thenR_ct, wp_var, wp_con, wp_bin, wp_un, wp_nil, wp_cons, wp_fn, wp_test, wp_and, wp_or, wp_not, wq_andV, wq_orV, bIf_bl, ite_both, ux_mulST, wp_notV, wp_if, wq_chain, wp_call, wp_sl, wp_nopart, wp_part, wp_bm, wp_iter, wp_rng1, wp_rng2, wp_lc, wp_bind, wp_ok, wp_up, Tg.set, setsD, List.getElem?_cons_zero, List.getElem?_cons_succ, List.set_cons_zero, List.set_cons_succ, List.length_cons, List.length_nil, and_self, if_true, reduceCtorEq, Nat.reduceAdd, List.map_cons, List.map_nil, Nat.reduceSub, List.replicate_succ, List.replicate_zero, List.cons_append, List.nil_append, ux_add, ux_iadd, ux_sub, ux_mul, ux_div, ux_mod, ux_pow, ux_neg, ux_eqI, ux_neI, ux_eqS, ux_neS, ux_lt, ux_le, ux_gt, ux_ge, ux_abs, ux_max, ux_min, ux_intI, ux_intB, ux_lst, ux_tup, mulOk_iff, true_or, or_true, ux_lenT, ux_lenF, ux_t0, ux_t1, ux_t2, ux_t3, ux_t4, ux_t5, isB, decide_eq_true_eq, Bool.not_eq_true', decide_eq_false_iff_not, i62, true_and, and_true, if_false, Int.reduceLT, Int.reduceLE, Int.reduceAbs, Nat.reduceLT, Nat.reduceLeDiff, Nat.reducePow, Int.reducePow, Int.reduceToNat, Int.reduceNeg, Nat.reduceEqDiff, or_self, not_true, not_false_eq_true, Bool.not_true, Bool.not_false, decide_true, decide_false, Bool.false_eq_true, len_map1, app2, app3, List.append_assoc, List.length_append, Nat.zero_add, Nat.add_zero, get_newc, get_new1, get_new2, get_new3, set_newc, set_new1, set_new2, it_str, it_tup, it_frl, gx_it, gx_isLs, gx_isTx, gx_len, gx_ixI, gx_ixS, gx_getI, gx_getS, ws_storeP, ws_aug2P, gx_stI, gx_stS, gx_app, gx_pop, gx_rev, gx_cat, gx_catT, gx_sl, gx_slT, gx_slF, gx_join, gx_joinT, gx_tup, gx_tupT, gx_tupF, gx_lst, gx_lstT, gx_lstF, gx_all, gx_notInK, Mn.atI_last, Mn.ixN_last, Mn.atI_0, gx_mulL, gx_mulT, ux_isB, ux_notB, ux_isNN, ux_notNN, ux_isSN, ux_notSN, ux_isIN, ux_notIN, ux_isTN, ux_notTN, ux_isRN, ux_notRN, gx_sort, gx_dct, Mn.atI_1, Mn.atI_2, Mn.atI_3, List.length_map, set_lastM, set_lastL, List.getLast?_concat, List.dropLast_concat, gcn_str, gcn_int, gcn_bl, gcn_non, gcs_str, gcs_int, gcs_bl, gcs_non, gcn_tup, gcs_tup, gcn_lst, gcn_lst1, gcn_lst2, refsL_strs, refsL_nil, refsL_s, refsL_i, refsL_n, refsL_b, refsL_t, refsL_app, ux_slS, ux_addS, ux_iaddS, ux_lenS, ux_ixS, ux_inT2, ux_inT3, findK_nil, findK_cons, putKD_nil, putKD_cons, gx_rvL, gx_rvF, gx_rvT, gx_rvS, gx_repl, ws_no, ux_neB, ux_eqB, txsOf_map, ws_forE, keyOf_str, keyOf_int, joinTx_nil, List.foldl_cons, List.foldl_nil]; repeat (refine And.intro (by omega) ?_))
    exact q
end Lw
end

section
namespace Lw
open Mn
/-! What is put in to a line, plainly. -/
/-! ### dicts by names -/
def dK {α : Type} (f : α → D) (L : List (Mn.Tx × α)) : List (DK × D) := L.map fun p => (.inr p.1, f p.2)
def getL {α : Type} : List (Mn.Tx × α) → Mn.Tx → Option α
  | [], _ => none
  | p :: L, n => if p.1 = n then some p.2 else getL L n
def putL {α : Type} : List (Mn.Tx × α) → Mn.Tx → α → List (Mn.Tx × α)
  | [], n, v => [(n, v)]
  | p :: L, n, v => if p.1 = n then (p.1, v) :: L else p :: putL L n v
def NoTwice {α : Type} (L : List (Mn.Tx × α)) : Prop := (L.map (·.1)).Nodup
theorem find_dK {α : Type} (f : α → D) (n : Mn.Tx) : ∀ L : List (Mn.Tx × α), findK (dK f L) (.inr n) = (getL L n).map f
  | [] => rfl
  | p :: L => by
    show findK ((.inr p.1, f p.2) :: dK f L) (.inr n) = _
    rw [findK_cons, find_dK f n L]
    show (if (Sum.inr p.1 : DK) = .inr n then _ else _) = (if p.1 = n then some p.2 else getL L n).map f
    by_cases h : p.1 = n
    · rw [if_pos (by rw [h]), if_pos h]
      rfl
    · rw [if_neg (fun z => h (Sum.inr.inj z)), if_neg h]
theorem put_keys {α : Type} (n : Mn.Tx) (v : α) : ∀ L : List (Mn.Tx × α), (putL L n v).map (·.1) = if n ∈ L.map (·.1) then L.map (·.1) else L.map (·.1) ++ [n]
  | [] => by simp [putL]
  | p :: L => by
    unfold putL
    by_cases h : p.1 = n
    · rw [if_pos h]
      simp [h]
    · rw [if_neg h, List.map_cons, put_keys n v L, List.map_cons]
      by_cases h2 : n ∈ L.map (·.1)
      · rw [if_pos h2, if_pos (List.mem_cons_of_mem _ h2)]
      · rw [if_neg h2, if_neg (by intro z; rcases List.mem_cons.mp z with z | z; exact h z.symm; exact h2 z)]
        rfl
theorem NoTwice.put {α : Type} {L : List (Mn.Tx × α)} (h : NoTwice L) (n : Mn.Tx) (v : α) : NoTwice (putL L n v) := by
  unfold NoTwice at h ⊢
  rw [put_keys]
  split
  · exact h
  · rename_i hn
    rw [List.nodup_append]
    exact ⟨h, by simp, fun a ha b hb e => hn (by rw [List.mem_singleton.mp hb] at e; exact e ▸ ha)⟩
theorem put_dK {α : Type} (f : α → D) (n : Mn.Tx) (v : α) : ∀ {L : List (Mn.Tx × α)}, NoTwice L → putKD (dK f L) (.inr n) (f v) = dK f (putL L n v)
  | [], _ => rfl
  | p :: L, h => by
    have h' : (p.1 :: L.map (·.1)).Nodup := h
    rw [List.nodup_cons] at h'
    have ih := put_dK f n v (L := L) h'.2
    unfold putKD at ih ⊢
    show (if ((dK f (p :: L)).any fun kv => decide (kv.1 = .inr n)) = true then _ else _) = dK f (if p.1 = n then (p.1, v) :: L else p :: putL L n v)
    by_cases hp : p.1 = n
    · rw [if_pos (by simp [dK, hp]), if_pos hp]
      have e : (dK f L).map (fun kv => if kv.1 = .inr n then (kv.1, f v) else kv) = dK f L := by
        conv => rhs; rw [← List.map_id (dK f L)]
        refine List.map_congr_left fun kv hk => ?_
        unfold dK at hk
        obtain ⟨q, hq, rfl⟩ := List.mem_map.mp hk
        rw [if_neg]
        · rfl
        · intro z
          have z := Sum.inr.inj z
          exact h'.1 (by rw [hp, ← z]; exact List.mem_map_of_mem hq)
      show ((if (Sum.inr p.1 : DK) = .inr n then ((Sum.inr p.1 : DK), f v) else (.inr p.1, f p.2)) :: (dK f L).map fun kv => if kv.1 = .inr n then (kv.1, f v) else kv) = (.inr p.1, f v) :: dK f L
      rw [e, if_pos (by rw [hp])]
    · rw [if_neg hp]
      have np : decide ((Sum.inr p.1 : DK) = .inr n) = false := decide_eq_false fun z => hp (Sum.inr.inj z)
      have e2 : ((dK f (p :: L)).any fun kv => decide (kv.1 = .inr n)) = ((dK f L).any fun kv => decide (kv.1 = .inr n)) := by
        show (decide ((Sum.inr p.1 : DK) = .inr n) || (dK f L).any fun kv => decide (kv.1 = .inr n)) = _
        rw [np, Bool.false_or]
      rw [e2]
      by_cases ha : ((dK f L).any fun kv => decide (kv.1 = .inr n)) = true
      · rw [if_pos ha] at ih ⊢
        show (if (Sum.inr p.1 : DK) = .inr n then ((Sum.inr p.1 : DK), f v) else (.inr p.1, f p.2)) :: (dK f L).map (fun kv => if kv.1 = .inr n then (kv.1, f v) else kv) = (.inr p.1, f p.2) :: dK f (putL L n v)
        rw [ih, if_neg (fun z => hp (Sum.inr.inj z))]
      · rw [if_neg ha] at ih ⊢
        show (.inr p.1, f p.2) :: (dK f L ++ [(.inr n, f v)]) = (.inr p.1, f p.2) :: dK f (putL L n v)
        rw [ih]
theorem get_put {α : Type} (n k : Mn.Tx) (v : α) : ∀ L : List (Mn.Tx × α), getL (putL L n v) k = if n = k then some v else getL L k
  | [] => rfl
  | p :: L => by
    unfold putL
    by_cases hp : p.1 = n
    · rw [if_pos hp]
      show (if p.1 = k then some v else getL L k) = if n = k then some v else if p.1 = k then some p.2 else getL L k
      rw [hp]
      split <;> rfl
    · rw [if_neg hp]
      show (if p.1 = k then some p.2 else getL (putL L n v) k) = if n = k then some v else if p.1 = k then some p.2 else getL L k
      rw [get_put n k v L]
      by_cases hk : p.1 = k
      · rw [if_pos hk, if_neg (fun z => hp (hk.trans z.symm)), if_pos hk]
      · rw [if_neg hk, if_neg hk]
end Lw
end

section
namespace Lw
open Mn
abbrev Reg := Int × Int × Mn.Tx
abbrev Regs := List (Mn.Tx × Reg)
abbrev Strs := List (Mn.Tx × Mn.Tx)
def regD (r : Reg) : D := .tup [.int r.1, .int r.2.1, .str r.2.2]
def freshR : Reg := (0, 0, [49])
def clampI (v : Int) : Int := if (if v < 9999 then v else 9999) > -9999 then if v < 9999 then v else 9999 else -9999
def stepF (r : Reg) : Reg := (clampI (r.1 + r.2.1), r.2.1, r.2.2)
def FormOk (f : Mn.Tx) : Prop := f = [49] ∨ f = [48, 49] ∨ f = [97] ∨ f = [105]
structure RegOk (r : Reg) : Prop where
  v : -9999 ≤ r.1 ∧ r.1 ≤ 9999
  s : -9999 ≤ r.2.1 ∧ r.2.1 ≤ 9999
  f : FormOk r.2.2
theorem clampI_b (v : Int) : -9999 ≤ clampI v ∧ clampI v ≤ 9999 := by
  unfold clampI
  repeat' split
  all_goals omega
theorem RegOk.fresh : RegOk freshR := ⟨⟨by decide, by decide⟩, ⟨by decide, by decide⟩, .inl rfl⟩
theorem RegOk.step {r : Reg} (h : RegOk r) : RegOk (stepF r) := ⟨clampI_b _, h.s, h.f⟩
def regOf (R : Regs) (n : Mn.Tx) : Reg := (getL R n).getD freshR
structure RegsOk (R : Regs) : Prop where
  nd : NoTwice R
  ok : ∀ p ∈ R, RegOk p.2
theorem get_mem {α : Type} {n : Mn.Tx} {v : α} : ∀ {L : List (Mn.Tx × α)}, getL L n = some v → (n, v) ∈ L
  | p :: L, h => by
    have h : (if p.1 = n then some p.2 else getL L n) = some v := h
    by_cases hp : p.1 = n
    · rw [if_pos hp] at h
      cases h
      subst hp
      exact List.mem_cons_self
    · rw [if_neg hp] at h
      exact List.mem_cons_of_mem _ (get_mem h)
theorem put_mem {α : Type} {n : Mn.Tx} {v : α} : ∀ {L : List (Mn.Tx × α)} {p : Mn.Tx × α}, p ∈ putL L n v → p ∈ L ∨ p.2 = v
  | [], p, h => by
    rw [List.mem_singleton.mp h]
    exact .inr rfl
  | q :: L, p, h => by
    have h : p ∈ (if q.1 = n then (q.1, v) :: L else q :: putL L n v) := h
    by_cases hq : q.1 = n
    · rw [if_pos hq] at h
      rcases List.mem_cons.mp h with rfl | h
      · exact .inr rfl
      · exact .inl (List.mem_cons_of_mem _ h)
    · rw [if_neg hq] at h
      rcases List.mem_cons.mp h with rfl | h
      · exact .inl List.mem_cons_self
      · rcases put_mem h with h | h
        · exact .inl (List.mem_cons_of_mem _ h)
        · exact .inr h
theorem RegsOk.of {R : Regs} (h : RegsOk R) (n : Mn.Tx) : RegOk (regOf R n) := by
  unfold regOf
  cases e : getL R n with
  | none => exact RegOk.fresh
  | some r => exact h.ok _ (get_mem e)
theorem RegsOk.put {R : Regs} (h : RegsOk R) (n : Mn.Tx) {r : Reg} (hr : RegOk r) : RegsOk (putL R n r) := ⟨h.nd.put n r, fun p hp => by
  rcases put_mem hp with hp | hp
  · exact h.ok p hp
  · rw [hp]
    exact hr⟩
/-! ### what is put in -/
/-- a name, perhaps with a plus ahead -/
def plusB (inn : Mn.Tx) : Bool := decide (inn.take 1 = [43])
def nameOf (inn : Mn.Tx) : Mn.Tx := if plusB inn = true then inn.drop 1 else inn
def regsBy (inn : Mn.Tx) (R : Regs) : Regs := if plusB inn = true then putL R (nameOf inn) (stepF (regOf R (nameOf inn))) else R
def shownR (r : Reg) : Mn.Tx := shownT r.1 r.2.2
def toldR (inn : Mn.Tx) (R : Regs) : Option Mn.Tx × Regs := if nameT (nameOf inn) 1 = true then (some (shownR (regOf (regsBy inn R) (nameOf inn))), regsBy inn R) else (none, R)
def toldA (inn : Mn.Tx) (A : List Mn.Tx) : Option Mn.Tx := match inn with
  | [c] => if 48 ≤ c ∧ c ≤ 57 then (if c = 48 then some (strInt (A.length : Nat)) else some (A.getD (c - 49) [])) else none
  | _ => none
def toldS (inn : Mn.Tx) (S : Strs) : Option Mn.Tx := if nameT inn 1 = true then some ((getL S inn).getD []) else none
def told (S : Strs) (A : List Mn.Tx) (c : Nat) (inn : Mn.Tx) (R : Regs) : Option Mn.Tx × Regs := if c = 82 then toldR inn R else if c = 83 then (toldS inn S, R) else (toldA inn A, R)
/-- what is asked at the head of a text: the letter, what stands in brackets -/
def askS : Mn.Tx → Option (Nat × Mn.Tx)
  | 92 :: c :: 40 :: r => if (c = 82 ∨ c = 83 ∨ c = 65) ∧ 41 ∈ r then some (c, r.takeWhile (· != 41)) else none
  | _ => none
def skipN (y : Mn.Tx) : Nat := if y.take 2 = [92, 92] then 2 else 1
abbrev Tell := Nat → Mn.Tx → Regs → Option Mn.Tx × Regs
def putS (T : Tell) : Nat → Mn.Tx → Regs → Mn.Tx × Regs
  | 0, _, R => ([], R)
  | _ + 1, [], R => ([], R)
  | k + 1, a :: y, R => match askS (a :: y) with
    | some (c, inn) => match T c inn R with
      | (some t, R') => (t ++ (putS T k ((a :: y).drop (inn.length + 4)) R').1, (putS T k ((a :: y).drop (inn.length + 4)) R').2)
      | (none, _) => ((a :: y).take (skipN (a :: y)) ++ (putS T k ((a :: y).drop (skipN (a :: y))) R).1, (putS T k ((a :: y).drop (skipN (a :: y))) R).2)
    | none => ((a :: y).take (skipN (a :: y)) ++ (putS T k ((a :: y).drop (skipN (a :: y))) R).1, (putS T k ((a :: y).drop (skipN (a :: y))) R).2)
def putAll (T : Tell) (y : Mn.Tx) (R : Regs) : Mn.Tx × Regs := putS T y.length y R
def putF (S : Strs) (A : List Mn.Tx) (x : Mn.Tx) (R : Regs) : Mn.Tx × Regs := ((putAll (told S A) x R).1.take 200, (putAll (told S A) x R).2)
theorem skip_pos (y : Mn.Tx) : 1 ≤ skipN y ∧ skipN y ≤ 2 := by
  unfold skipN
  split <;> omega
theorem putS_fuel (T : Tell) : ∀ (j k : Nat) (y : Mn.Tx) (R : Regs), y.length ≤ j → y.length ≤ k → putS T j y R = putS T k y R
  | 0, 0, [], R, _, _ => rfl
  | 0, k + 1, [], R, _, _ => rfl
  | j + 1, 0, [], R, _, _ => rfl
  | j + 1, k + 1, [], R, _, _ => rfl
  | j + 1, k + 1, a :: y, R, h1, h2 => by
    rw [List.length_cons] at h1 h2
    have sk := skip_pos (a :: y)
    have d1 : ((a :: y).drop (skipN (a :: y))).length ≤ j := by rw [List.length_drop, List.length_cons]; omega
    have d2 : ((a :: y).drop (skipN (a :: y))).length ≤ k := by rw [List.length_drop, List.length_cons]; omega
    have e1 := putS_fuel T j k _ R d1 d2
    unfold putS
    rw [e1]
    cases ha : askS (a :: y) with
    | none => rfl
    | some p =>
      obtain ⟨c, inn⟩ := p
      dsimp only
      rcases ht : T c inn R with ⟨o, R'⟩
      cases o with
      | none => rfl
      | some t =>
        dsimp only
        rw [putS_fuel T j k _ R' (by rw [List.length_drop, List.length_cons]; omega) (by rw [List.length_drop, List.length_cons]; omega)]
theorem putAll_nil (T : Tell) (R : Regs) : putAll T [] R = ([], R) := rfl
theorem putAll_skip (T : Tell) {y : Mn.Tx} {R : Regs} (hy : y ≠ []) (h : ∀ c inn, askS y = some (c, inn) → (T c inn R).1 = none) :
    putAll T y R = (y.take (skipN y) ++ (putAll T (y.drop (skipN y)) R).1, (putAll T (y.drop (skipN y)) R).2) := by
  cases y with
  | nil => exact absurd rfl hy
  | cons a y =>
    have sk := skip_pos (a :: y)
    have e := putS_fuel T y.length ((a :: y).drop (skipN (a :: y))).length ((a :: y).drop (skipN (a :: y))) R (by rw [List.length_drop, List.length_cons]; omega) (Nat.le_refl _)
    unfold putAll
    rw [← e, List.length_cons]
    conv => lhs; unfold putS
    cases ha : askS (a :: y) with
    | none => rfl
    | some p =>
      obtain ⟨c, inn⟩ := p
      have h1 := h c inn ha
      dsimp only
      rcases ht : T c inn R with ⟨o, R'⟩
      rw [ht] at h1
      cases h1
      rfl
theorem putAll_told (T : Tell) {y inn t : Mn.Tx} {c : Nat} {R R' : Regs} (h : askS y = some (c, inn)) (ht : T c inn R = (some t, R')) :
    putAll T y R = (t ++ (putAll T (y.drop (inn.length + 4)) R').1, (putAll T (y.drop (inn.length + 4)) R').2) := by
  cases y with
  | nil => cases h
  | cons a y =>
    have e := putS_fuel T y.length ((a :: y).drop (inn.length + 4)).length ((a :: y).drop (inn.length + 4)) R' (by rw [List.length_drop, List.length_cons]; omega) (Nat.le_refl _)
    unfold putAll
    rw [← e, List.length_cons]
    conv => lhs; unfold putS
    rw [h]
    dsimp only
    rw [ht]
theorem ask_len {y inn : Mn.Tx} {c : Nat} (h : askS y = some (c, inn)) : inn.length + 4 ≤ y.length ∧ (c = 82 ∨ c = 83 ∨ c = 65) := by
  unfold askS at h
  split at h
  · rename_i c' r
    split at h
    · rename_i hc
      cases h
      refine ⟨?_, hc.1⟩
      have h2 := List.takeWhile_append_dropWhile (p := (· != 41)) (l := r)
      have h3 : r.dropWhile (· != 41) ≠ [] := fun z => by
        rw [z, List.append_nil] at h2
        have h6 : 41 ∈ r.takeWhile (· != 41) := by rw [h2]; exact hc.2
        have h7 : ∀ (l : List Nat), 41 ∈ l.takeWhile (· != 41) → False := fun l => by
          induction l with
          | nil => simp
          | cons a l ih =>
            rw [List.takeWhile_cons]
            intro hm
            split at hm
            · rename_i ha
              rcases List.mem_cons.mp hm with e | e
              · rw [← e] at ha
                simp at ha
              · exact ih e
            · simp at hm
        exact h7 r h6
      have h4 := congrArg List.length h2
      rw [List.length_append] at h4
      have h5 := List.length_pos_iff.mpr h3
      simp only [List.length_cons]
      omega
    · cases h
  · cases h
theorem toldR_ok {inn : Mn.Tx} {R : Regs} (h : RegsOk R) : RegsOk (toldR inn R).2 ∧ (toldR inn R).2.length ≤ R.length + 1 := by
  have hl : ∀ (n : Mn.Tx) (r : Reg) (R : Regs), (putL R n r).length ≤ R.length + 1 := fun n r R => by
    induction R with
    | nil => exact Nat.le_refl _
    | cons p R ih =>
      unfold putL
      split
      · simp
      · simp only [List.length_cons]
        omega
  unfold toldR
  split
  · unfold regsBy
    split
    · exact ⟨h.put _ (h.of _).step, hl _ _ _⟩
    · exact ⟨h, Nat.le_succ _⟩
  · exact ⟨h, Nat.le_succ _⟩
theorem told_ok (S : Strs) (A : List Mn.Tx) {c : Nat} {inn : Mn.Tx} {R : Regs} (h : RegsOk R) : RegsOk (told S A c inn R).2 ∧ (told S A c inn R).2.length ≤ R.length + 1 := by
  unfold told
  split
  · exact toldR_ok h
  split
  · exact ⟨h, Nat.le_succ _⟩
  · exact ⟨h, Nat.le_succ _⟩
theorem told_none {S : Strs} {A : List Mn.Tx} {c : Nat} {inn : Mn.Tx} {R : Regs} (h : (told S A c inn R).1 = none) : (told S A c inn R).2 = R := by
  unfold told at h ⊢
  split
  · rename_i hc
    rw [if_pos hc] at h
    unfold toldR at h ⊢
    split
    · rename_i hn
      rw [if_pos hn] at h
      cases h
    · rfl
  split
  · rfl
  · rfl
/-! ### as the law tells it: steps of what is known alone -/
def regsL (inn : Mn.Tx) (R : Regs) : Regs := if plusB inn = true ∧ (getL R (nameOf inn)).isSome = true then putL R (nameOf inn) (stepF (regOf R (nameOf inn))) else R
def toldL (S : Strs) (A : List Mn.Tx) (c : Nat) (inn : Mn.Tx) (R : Regs) : Option Mn.Tx × Regs :=
  if c = 65 then (toldA inn A, R) else if c = 83 then (toldS inn S, R) else
  if nameT (nameOf inn) 1 = true then (some (shownR (regOf (regsL inn R) (nameOf inn))), regsL inn R) else (none, R)
/-- alike to who asks -/
def Alike (R R' : Regs) : Prop := ∀ n, regOf R n = regOf R' n
theorem regOf_put (R : Regs) (n k : Mn.Tx) (r : Reg) : regOf (putL R n r) k = if n = k then r else regOf R k := by
  unfold regOf
  rw [get_put]
  split <;> rfl
theorem step_fresh : stepF freshR = freshR := by decide
theorem regs_alike {R R' : Regs} (h : Alike R R') (inn : Mn.Tx) : Alike (regsBy inn R) (regsL inn R') := by
  intro k
  by_cases hp : plusB inn = true
  · have e1 : regsBy inn R = putL R (nameOf inn) (stepF (regOf R (nameOf inn))) := by
      unfold regsBy
      rw [if_pos hp]
    rw [e1, regOf_put, h (nameOf inn)]
    cases e : getL R' (nameOf inn) with
    | none =>
      have e3 : regsL inn R' = R' := by
        unfold regsL
        rw [if_neg]
        rw [e]
        simp
      have e2 : regOf R' (nameOf inn) = freshR := by
        unfold regOf
        rw [e]
        rfl
      rw [e3]
      split
      · rename_i hk
        subst hk
        rw [e2, step_fresh]
      · exact h k
    | some r =>
      have e3 : regsL inn R' = putL R' (nameOf inn) (stepF (regOf R' (nameOf inn))) := by
        unfold regsL
        rw [if_pos ⟨hp, by rw [e]; rfl⟩]
      rw [e3, regOf_put]
      split
      · rfl
      · exact h k
  · have e1 : regsBy inn R = R := by
      unfold regsBy
      rw [if_neg hp]
    have e3 : regsL inn R' = R' := by
      unfold regsL
      rw [if_neg fun z => hp z.1]
    rw [e1, e3]
    exact h k
theorem told_alike {S : Strs} {A : List Mn.Tx} {c : Nat} {inn : Mn.Tx} {R R' : Regs} (h : Alike R R') (hc : c = 82 ∨ c = 83 ∨ c = 65) : (told S A c inn R).1 = (toldL S A c inn R').1 ∧ Alike (told S A c inn R).2 (toldL S A c inn R').2 := by
  unfold told toldL
  rcases hc with rfl | rfl | rfl
  · rw [if_pos rfl, if_neg (by decide), if_neg (by decide)]
    unfold toldR
    split
    · have := regs_alike h inn
      exact ⟨by rw [this], this⟩
    · exact ⟨rfl, h⟩
  · rw [if_neg (by decide), if_pos rfl, if_neg (by decide), if_pos rfl]
    exact ⟨rfl, h⟩
  · rw [if_neg (by decide), if_neg (by decide), if_pos rfl]
    exact ⟨rfl, h⟩
theorem put_alike (S : Strs) (A : List Mn.Tx) : ∀ (k : Nat) (y : Mn.Tx) (R R' : Regs), Alike R R' → (putS (told S A) k y R).1 = (putS (toldL S A) k y R').1 ∧ Alike (putS (told S A) k y R).2 (putS (toldL S A) k y R').2
  | 0, y, R, R', h => ⟨rfl, h⟩
  | k + 1, [], R, R', h => ⟨rfl, h⟩
  | k + 1, a :: y, R, R', h => by
    have ih := fun d R R' h => put_alike S A k d R R' h
    obtain ⟨i1, i2⟩ := ih ((a :: y).drop (skipN (a :: y))) R R' h
    unfold putS
    cases ha : askS (a :: y) with
    | none => exact ⟨by dsimp only; rw [i1], i2⟩
    | some p =>
      obtain ⟨c, inn⟩ := p
      obtain ⟨t1, t2⟩ := told_alike (S := S) (A := A) (inn := inn) h (ask_len ha).2
      dsimp only
      rcases e1 : told S A c inn R with ⟨o, Q⟩
      rcases e2 : toldL S A c inn R' with ⟨o', Q'⟩
      rw [e1, e2] at t1 t2
      dsimp only at t1 t2
      subst t1
      cases o with
      | none => exact ⟨by dsimp only; rw [i1], i2⟩
      | some t =>
        obtain ⟨j1, j2⟩ := ih ((a :: y).drop (inn.length + 4)) Q Q' t2
        exact ⟨by dsimp only; rw [j1], j2⟩
theorem putF_alike (S : Strs) (A : List Mn.Tx) (x : Mn.Tx) {R R' : Regs} (h : Alike R R') : (putF S A x R).1 = (putAll (toldL S A) x R').1.take 200 := by
  unfold putF putAll
  rw [(put_alike S A x.length x R R' h).1]
theorem toldL_ok (S : Strs) (A : List Mn.Tx) {c : Nat} {inn : Mn.Tx} {R : Regs} (h : RegsOk R) : RegsOk (toldL S A c inn R).2 := by
  unfold toldL
  split
  · exact h
  split
  · exact h
  split
  · unfold regsL
    split
    · exact h.put _ (h.of _).step
    · exact h
  · exact h
theorem toldL_none {S : Strs} {A : List Mn.Tx} {c : Nat} {inn : Mn.Tx} {R : Regs} (h : (toldL S A c inn R).1 = none) : (toldL S A c inn R).2 = R := by
  unfold toldL at h ⊢
  split
  · rfl
  split
  · rfl
  split
  · rename_i h1 h2 h3
    rw [if_neg h1, if_neg h2, if_pos h3] at h
    cases h
  · rfl
end Lw
end

section
namespace Mn
open PySem PySem.Spec PyProof.Rows L2
/-- where a sign stands from a place on -/
theorem find_c (x : Tx) (c n : Nat) (hn : n ≤ x.length) : Txt.find3 (tx x) (tx [c]) (n : Int) = if c ∈ x.drop n then ((n + ((x.drop n).takeWhile (· != c)).length : Nat) : Int) else -1 := by
  have fi : fromIndex (tx x).length (n : Int) = n := by
    rw [len_tx]
    simp [fromIndex]
    omega
  have gd : ∀ v, (tx x).cps.getD v 0 = x.getD v 0 := fun v => by
    show x.toArray.getD v 0 = x.getD v 0
    simp [Array.getD, List.getD_eq_getElem?_getD]
    split
    · rename_i h
      rw [List.getElem?_eq_getElem h]
      rfl
    · rename_i h
      rw [List.getElem?_eq_none (by omega)]
      rfl
  rcases StrLaws.find3_spec (tx x) c n with ⟨e, h⟩ | ⟨k, e, h1, h2, h3, h4⟩
  · have e : Txt.find3 (tx x) (tx [c]) (n : Int) = -1 := e
    rw [e, if_neg]
    intro hc
    obtain ⟨j, hj, ej⟩ := List.mem_iff_getElem.mp hc
    rw [List.length_drop] at hj
    rw [List.getElem_drop] at ej
    refine h (n + j) (by rw [fi]; omega) (by rw [len_tx]; omega) ?_
    rw [gd, List.getD_eq_getElem?_getD, List.getElem?_eq_getElem (by omega)]
    exact ej
  · have e : Txt.find3 (tx x) (tx [c]) (n : Int) = (k : Int) := e
    rw [fi] at h1 h4
    rw [len_tx] at h2
    have h3' : x[k] = c := by
      rw [gd, List.getD_eq_getElem?_getD, List.getElem?_eq_getElem h2] at h3
      exact h3
    have sp : x.drop n = (x.drop n).take (k - n) ++ c :: x.drop (k + 1) := by
      conv => lhs; rw [← List.take_append_drop (k - n) (x.drop n)]
      rw [List.drop_drop, show n + (k - n) = k by omega, List.drop_eq_getElem_cons h2, h3']
    have al : ∀ a ∈ (x.drop n).take (k - n), (a != c) = true := fun a ha => by
      obtain ⟨j, hj, ej⟩ := List.mem_iff_getElem.mp ha
      rw [List.length_take, List.length_drop] at hj
      rw [List.getElem_take, List.getElem_drop] at ej
      have := h4 (n + j) (by omega) (by omega)
      rw [gd, List.getD_eq_getElem?_getD, List.getElem?_eq_getElem (by omega)] at this
      rw [bne_iff_ne]
      rw [← ej]
      exact this
    have tw : (x.drop n).takeWhile (· != c) = (x.drop n).take (k - n) := by
      conv => lhs; rw [sp]
      rw [List.takeWhile_append_of_pos al]
      have : ((c : Nat) != c) = false := by simp
      rw [List.takeWhile_cons, this]
      simp
    rw [e, if_pos (by rw [sp]; exact List.mem_append_right _ List.mem_cons_self), tw, List.length_take, List.length_drop]
    congr 1
    omega
theorem ux_find {m : MH} {P : D → MH → Prop} {x : Tx} {c n : Nat} (hn : n ≤ x.length) : wp (up (findM (.str x) [.str [c], .int (n : Int)] m)) P = P (.int (if c ∈ x.drop n then ((n + ((x.drop n).takeWhile (· != c)).length : Nat) : Int) else -1)) m := by
  show wp (up (some (.int (Txt.find3 (tx x) (tx [c]) (n : Int)), m))) P = _
  rw [find_c x c n hn]
  rfl
theorem ux_notInT3 {m : MH} {P : D → MH → Prop} {x a b c : Tx} : wp (up (notInD (.str x) (.tup [.str a, .str b, .str c]) m)) P = P (.bl (!(decide (x = a) || (decide (x = b) || decide (x = c))))) m := by
  have h := fun Q => ux_inT3 (m := m) (P := Q) (x := x) (a := a) (b := b) (c := c)
  unfold notInD
  cases e : inD (.str x) (.tup [.str a, .str b, .str c]) m with
  | none =>
    have := (h fun _ _ => True).mpr True.intro
    rw [e] at this
    exact this.elim
  | some p =>
    obtain ⟨d, m'⟩ := p
    have := (h fun d2 m2 => d2 = .bl (decide (x = a) || (decide (x = b) || decide (x = c))) ∧ m2 = m).mpr ⟨rfl, rfl⟩
    rw [e] at this
    obtain ⟨rfl, rfl⟩ := this
    rfl
theorem ux_notInS {m : MH} {P : D → MH → Prop} {c : Nat} {y : Tx} : wp (up (notInD (.str [c]) (.str y) m)) P = P (.bl (!decide (c ∈ y))) m := rfl
end Mn
end

section
namespace Lw
open PySem PySem.Spec PyProof.Rows L2 Mn
set_option maxHeartbeats 4000000
theorem clamped_then {m : MH} {v : Int} {P : D → MH → Prop} (i : P (.int (clampI v)) m) : wp (f_clamped [.int v, .int (-9999), .int 9999] m) P := by
  apply wp_fnD
  unfold b_clamped
  unfold clampI at i
  ((try dsimp only); try simp -implicitDefEqProofs only [ws_seq, ws_set, ws_par2, ws_exp, ws_ret, ws_if, ws_tg, ws_nil, ws_aug, thenR_nx, thenR_ret, thenR_bk, thenR_ct, wp_var, wp_con, wp_bin, wp_un, wp_nil, wp_cons, wp_fn, wp_test, wp_and, wp_or, wp_not, wq_andV, wq_orV, bIf_bl, ite_both, ux_mulST, wp_notV, wp_if, wq_chain, wp_call, wp_sl, wp_nopart, wp_part, wp_bm, wp_iter, wp_rng1, wp_rng2, wp_lc, wp_bind, wp_ok, wp_up, Tg.set, setsD, List.getElem?_cons_zero, List.getElem?_cons_succ, List.set_cons_zero, List.set_cons_succ, List.length_cons, List.length_nil, and_self, if_true, reduceCtorEq, Nat.reduceAdd, List.map_cons, List.map_nil, Nat.reduceSub, List.replicate_succ, List.replicate_zero, List.cons_append, List.nil_append, ux_add, ux_iadd, ux_sub, ux_mul, ux_div, ux_mod, ux_pow, ux_neg, ux_eqI, ux_neI, ux_eqS, ux_neS, ux_lt, ux_le, ux_gt, ux_ge, ux_abs, ux_max, ux_min, ux_intI, ux_intB, ux_lst, ux_tup, mulOk_iff, true_or, or_true, ux_lenT, ux_lenF, ux_t0, ux_t1, ux_t2, ux_t3, ux_t4, ux_t5, isB, decide_eq_true_eq, Bool.not_eq_true', decide_eq_false_iff_not, i62, true_and, and_true, if_false, Int.reduceLT, Int.reduceLE, Int.reduceAbs, Nat.reduceLT, Nat.reduceLeDiff, Nat.reducePow, Int.reducePow, Int.reduceToNat, Int.reduceNeg, Nat.reduceEqDiff, or_self, not_true, not_false_eq_true, Bool.not_true, Bool.not_false, decide_true, decide_false, Bool.false_eq_true, len_map1, app2, app3, List.append_assoc, List.length_append, Nat.zero_add, Nat.add_zero, get_newc, get_new1, get_new2, get_new3, set_newc, set_new1, set_new2, it_str, it_tup, it_frl, gx_it, gx_isLs, gx_isTx, gx_len, gx_ixI, gx_ixS, gx_getI, gx_getS, ws_storeP, ws_aug2P, gx_stI, gx_stS, gx_app, gx_pop, gx_rev, gx_cat, gx_catT, gx_sl, gx_slT, gx_slF, gx_join, gx_joinT, gx_tup, gx_tupT, gx_tupF, gx_lst, gx_lstT, gx_lstF, gx_all, gx_notInK, Mn.atI_last, Mn.ixN_last, Mn.atI_0, gx_mulL, gx_mulT, ux_isB, ux_notB, ux_isNN, ux_notNN, ux_isSN, ux_notSN, ux_isIN, ux_notIN, ux_isTN, ux_notTN, ux_isRN, ux_notRN, gx_sort, gx_dct, Mn.atI_1, Mn.atI_2, Mn.atI_3, List.length_map, set_lastM, set_lastL, List.getLast?_concat, List.dropLast_concat, gcn_str, gcn_int, gcn_bl, gcn_non, gcs_str, gcs_int, gcs_bl, gcs_non, gcn_tup, gcs_tup, gcn_lst, gcn_lst1, gcn_lst2, refsL_strs, refsL_nil, refsL_s, refsL_i, refsL_n, refsL_b, refsL_t, refsL_app, ux_slS, ux_addS, ux_iaddS, ux_lenS, ux_ixS, ux_inT2, ux_inT3, findK_nil, findK_cons, putKD_nil, putKD_cons, gx_rvL, gx_rvF, gx_rvT, gx_rvS, gx_repl, ws_no, ux_neB, ux_eqB, txsOf_map, ws_forE, keyOf_str, keyOf_int, joinTx_nil, List.foldl_cons, List.foldl_nil]; repeat (refine And.intro (by omega) ?_))
  exact i
theorem stepped_then {m : MH} {r : Reg} {P : D → MH → Prop} (i : P (regD (stepF r)) m) : wp (f_stepped [regD r] m) P := by
  unfold regD
  apply wp_fnD
  unfold b_stepped
  ((try dsimp only); try simp -implicitDefEqProofs only [ws_seq, ws_set, ws_par2, ws_exp, ws_ret, ws_if, ws_tg, ws_nil, ws_aug, thenR_nx, thenR_ret, thenR_bk, thenR_ct, wp_var, wp_con, wp_bin, wp_un, wp_nil, wp_cons, wp_fn, wp_test, wp_and, wp_or, wp_not, wq_andV, wq_orV, bIf_bl, ite_both, ux_mulST, wp_notV, wp_if, wq_chain, wp_call, wp_sl, wp_nopart, wp_part, wp_bm, wp_iter, wp_rng1, wp_rng2, wp_lc, wp_bind, wp_ok, wp_up, Tg.set, setsD, List.getElem?_cons_zero, List.getElem?_cons_succ, List.set_cons_zero, List.set_cons_succ, List.length_cons, List.length_nil, and_self, if_true, reduceCtorEq, Nat.reduceAdd, List.map_cons, List.map_nil, Nat.reduceSub, List.replicate_succ, List.replicate_zero, List.cons_append, List.nil_append, ux_add, ux_iadd, ux_sub, ux_mul, ux_div, ux_mod, ux_pow, ux_neg, ux_eqI, ux_neI, ux_eqS, ux_neS, ux_lt, ux_le, ux_gt, ux_ge, ux_abs, ux_max, ux_min, ux_intI, ux_intB, ux_lst, ux_tup, mulOk_iff, true_or, or_true, ux_lenT, ux_lenF, ux_t0, ux_t1, ux_t2, ux_t3, ux_t4, ux_t5, isB, decide_eq_true_eq, Bool.not_eq_true', decide_eq_false_iff_not, i62, true_and, and_true, if_false, Int.reduceLT, Int.reduceLE, Int.reduceAbs, Nat.reduceLT, Nat.reduceLeDiff, Nat.reducePow, Int.reducePow, Int.reduceToNat, Int.reduceNeg, Nat.reduceEqDiff, or_self, not_true, not_false_eq_true, Bool.not_true, Bool.not_false, decide_true, decide_false, Bool.false_eq_true, len_map1, app2, app3, List.append_assoc, List.length_append, Nat.zero_add, Nat.add_zero, get_newc, get_new1, get_new2, get_new3, set_newc, set_new1, set_new2, it_str, it_tup, it_frl, gx_it, gx_isLs, gx_isTx, gx_len, gx_ixI, gx_ixS, gx_getI, gx_getS, ws_storeP, ws_aug2P, gx_stI, gx_stS, gx_app, gx_pop, gx_rev, gx_cat, gx_catT, gx_sl, gx_slT, gx_slF, gx_join, gx_joinT, gx_tup, gx_tupT, gx_tupF, gx_lst, gx_lstT, gx_lstF, gx_all, gx_notInK, Mn.atI_last, Mn.ixN_last, Mn.atI_0, gx_mulL, gx_mulT, ux_isB, ux_notB, ux_isNN, ux_notNN, ux_isSN, ux_notSN, ux_isIN, ux_notIN, ux_isTN, ux_notTN, ux_isRN, ux_notRN, gx_sort, gx_dct, Mn.atI_1, Mn.atI_2, Mn.atI_3, List.length_map, set_lastM, set_lastL, List.getLast?_concat, List.dropLast_concat, gcn_str, gcn_int, gcn_bl, gcn_non, gcs_str, gcs_int, gcs_bl, gcs_non, gcn_tup, gcs_tup, gcn_lst, gcn_lst1, gcn_lst2, refsL_strs, refsL_nil, refsL_s, refsL_i, refsL_n, refsL_b, refsL_t, refsL_app, ux_slS, ux_addS, ux_iaddS, ux_lenS, ux_ixS, ux_inT2, ux_inT3, findK_nil, findK_cons, putKD_nil, putKD_cons, gx_rvL, gx_rvF, gx_rvT, gx_rvS, gx_repl, ws_no, ux_neB, ux_eqB, txsOf_map, ws_forE, keyOf_str, keyOf_int, joinTx_nil, List.foldl_cons, List.foldl_nil, pD, pks, Pk.get, List.drop_zero, List.drop_succ_cons, List.take_succ_cons, List.take_zero]; repeat (refine And.intro (by omega) ?_))
  refine clamped_then ?_
  ((try dsimp only); try simp -implicitDefEqProofs only [ws_seq, ws_set, ws_par2, ws_exp, ws_ret, ws_if, ws_tg, ws_nil, ws_aug, thenR_nx, thenR_ret, thenR_bk, thenR_ct, wp_var, wp_con, wp_bin, wp_un, wp_nil, wp_cons, wp_fn, wp_test, wp_and, wp_or, wp_not, wq_andV, wq_orV, bIf_bl, ite_both, ux_mulST, wp_notV, wp_if, wq_chain, wp_call, wp_sl, wp_nopart, wp_part, wp_bm, wp_iter, wp_rng1, wp_rng2, wp_lc, wp_bind, wp_ok, wp_up, Tg.set, setsD, List.getElem?_cons_zero, List.getElem?_cons_succ, List.set_cons_zero, List.set_cons_succ, List.length_cons, List.length_nil, and_self, if_true, reduceCtorEq, Nat.reduceAdd, List.map_cons, List.map_nil, Nat.reduceSub, List.replicate_succ, List.replicate_zero, List.cons_append, List.nil_append, ux_add, ux_iadd, ux_sub, ux_mul, ux_div, ux_mod, ux_pow, ux_neg, ux_eqI, ux_neI, ux_eqS, ux_neS, ux_lt, ux_le, ux_gt, ux_ge, ux_abs, ux_max, ux_min, ux_intI, ux_intB, ux_lst, ux_tup, mulOk_iff, true_or, or_true, ux_lenT, ux_lenF, ux_t0, ux_t1, ux_t2, ux_t3, ux_t4, ux_t5, isB, decide_eq_true_eq, Bool.not_eq_true', decide_eq_false_iff_not, i62, true_and, and_true, if_false, Int.reduceLT, Int.reduceLE, Int.reduceAbs, Nat.reduceLT, Nat.reduceLeDiff, Nat.reducePow, Int.reducePow, Int.reduceToNat, Int.reduceNeg, Nat.reduceEqDiff, or_self, not_true, not_false_eq_true, Bool.not_true, Bool.not_false, decide_true, decide_false, Bool.false_eq_true, len_map1, app2, app3, List.append_assoc, List.length_append, Nat.zero_add, Nat.add_zero, get_newc, get_new1, get_new2, get_new3, set_newc, set_new1, set_new2, it_str, it_tup, it_frl, gx_it, gx_isLs, gx_isTx, gx_len, gx_ixI, gx_ixS, gx_getI, gx_getS, ws_storeP, ws_aug2P, gx_stI, gx_stS, gx_app, gx_pop, gx_rev, gx_cat, gx_catT, gx_sl, gx_slT, gx_slF, gx_join, gx_joinT, gx_tup, gx_tupT, gx_tupF, gx_lst, gx_lstT, gx_lstF, gx_all, gx_notInK, Mn.atI_last, Mn.ixN_last, Mn.atI_0, gx_mulL, gx_mulT, ux_isB, ux_notB, ux_isNN, ux_notNN, ux_isSN, ux_notSN, ux_isIN, ux_notIN, ux_isTN, ux_notTN, ux_isRN, ux_notRN, gx_sort, gx_dct, Mn.atI_1, Mn.atI_2, Mn.atI_3, List.length_map, set_lastM, set_lastL, List.getLast?_concat, List.dropLast_concat, gcn_str, gcn_int, gcn_bl, gcn_non, gcs_str, gcs_int, gcs_bl, gcs_non, gcn_tup, gcs_tup, gcn_lst, gcn_lst1, gcn_lst2, refsL_strs, refsL_nil, refsL_s, refsL_i, refsL_n, refsL_b, refsL_t, refsL_app, ux_slS, ux_addS, ux_iaddS, ux_lenS, ux_ixS, ux_inT2, ux_inT3, findK_nil, findK_cons, putKD_nil, putKD_cons, gx_rvL, gx_rvF, gx_rvT, gx_rvS, gx_repl, ws_no, ux_neB, ux_eqB, txsOf_map, ws_forE, keyOf_str, keyOf_int, joinTx_nil, List.foldl_cons, List.foldl_nil]; repeat (refine And.intro (by omega) ?_))
  exact i
theorem cutN {x : Mn.Tx} {i j : Int} (a b : Nat) (hi : i = (a : Nat)) (hj : j = (b : Nat)) : Mn.cutD x (some i) (some j) = (x.drop a).take (b - a) := by
  subst hi hj
  rw [cut_mid (by omega) (by omega)]
  rfl
def askD (n : Nat) : Option (Nat × Mn.Tx) → D
  | some (c, inn) => .tup [.str [c], .str inn, .int ((n + inn.length + 4 : Nat) : Int)]
  | none => .non
theorem asked_at_then {m : MH} {x : Mn.Tx} {n : Nat} {P : D → MH → Prop} (hx : x.length ≤ 90000) (hn : n ≤ x.length) (q : P (askD n (askS (x.drop n))) m) : wp (f_asked_at [.str x, .int (n : Nat)] m) P := by
  apply wp_fnD
  unfold b_asked_at
  have e1 := cutN (x := x) (i := (n : Int)) (j := (n : Int) + 1) n (n + 1) rfl (by omega)
  have e2 := cutN (x := x) (i := (n : Int) + 2) (j := (n : Int) + 3) (n + 2) (n + 3) (by omega) (by omega)
  have e3 := cutN (x := x) (i := (n : Int) + 1) (j := (n : Int) + 2) (n + 1) (n + 2) (by omega) (by omega)
  rw [show n + 1 - n = 1 by omega] at e1
  rw [show n + 3 - (n + 2) = 1 by omega, ← List.drop_drop] at e2
  rw [show n + 2 - (n + 1) = 1 by omega, ← List.drop_drop] at e3
  have ef := fun P => ux_find (m := m) (P := P) (c := 41) hn
  have hd := List.length_drop (l := x) (i := n)
  have e4 : ∀ b : Nat, Mn.cutD x (some ((n : Int) + 3)) (some (b : Int)) = ((x.drop n).drop 3).take (b - (n + 3)) := fun b => by
    rw [cutN (x := x) (i := (n : Int) + 3) (n + 3) b (by omega) rfl, List.drop_drop]
  have e5 : n + 1 < x.length → x.getD (n + 1) 0 = (x.drop n).getD 1 0 := fun h => by
    rw [List.getD_eq_getElem?_getD, List.getD_eq_getElem?_getD, List.getElem?_drop]
  have e6 : n + 1 < x.length → ∀ P, wp (up (ixD (.str x) (.int ((n : Int) + 1)) m)) P = P (.str [(x.drop n).getD 1 0]) m := fun h P => by
    have := ux_ixSn (m := m) (P := P) h (by omega)
    rw [e5 h] at this
    exact this
  generalize x.drop n = y at q e1 e2 e3 ef hd e4 e6
  ((try dsimp only); try simp -implicitDefEqProofs only [ws_seq, ws_set, ws_par2, ws_exp, ws_ret, ws_if, ws_tg, ws_nil, ws_aug, thenR_nx, thenR_ret, thenR_bk, thenR_ct, wp_var, wp_con, wp_bin, wp_un, wp_nil, wp_cons, wp_fn, wp_test, wp_and, wp_or, wp_not, wq_andV, wq_orV, bIf_bl, ite_both, ux_mulST, wp_notV, wp_if, wq_chain, wp_call, wp_sl, wp_nopart, wp_part, wp_bm, wp_iter, wp_rng1, wp_rng2, wp_lc, wp_bind, wp_ok, wp_up, Tg.set, setsD, List.getElem?_cons_zero, List.getElem?_cons_succ, List.set_cons_zero, List.set_cons_succ, List.length_cons, List.length_nil, and_self, if_true, reduceCtorEq, Nat.reduceAdd, List.map_cons, List.map_nil, Nat.reduceSub, List.replicate_succ, List.replicate_zero, List.cons_append, List.nil_append, ux_add, ux_iadd, ux_sub, ux_mul, ux_div, ux_mod, ux_pow, ux_neg, ux_eqI, ux_neI, ux_eqS, ux_neS, ux_lt, ux_le, ux_gt, ux_ge, ux_abs, ux_max, ux_min, ux_intI, ux_intB, ux_lst, ux_tup, mulOk_iff, true_or, or_true, ux_lenT, ux_lenF, ux_t0, ux_t1, ux_t2, ux_t3, ux_t4, ux_t5, isB, decide_eq_true_eq, Bool.not_eq_true', decide_eq_false_iff_not, i62, true_and, and_true, if_false, Int.reduceLT, Int.reduceLE, Int.reduceAbs, Nat.reduceLT, Nat.reduceLeDiff, Nat.reducePow, Int.reducePow, Int.reduceToNat, Int.reduceNeg, Nat.reduceEqDiff, or_self, not_true, not_false_eq_true, Bool.not_true, Bool.not_false, decide_true, decide_false, Bool.false_eq_true, len_map1, app2, app3, List.append_assoc, List.length_append, Nat.zero_add, Nat.add_zero, get_newc, get_new1, get_new2, get_new3, set_newc, set_new1, set_new2, it_str, it_tup, it_frl, gx_it, gx_isLs, gx_isTx, gx_len, gx_ixI, gx_ixS, gx_getI, gx_getS, ws_storeP, ws_aug2P, gx_stI, gx_stS, gx_app, gx_pop, gx_rev, gx_cat, gx_catT, gx_sl, gx_slT, gx_slF, gx_join, gx_joinT, gx_tup, gx_tupT, gx_tupF, gx_lst, gx_lstT, gx_lstF, gx_all, gx_notInK, Mn.atI_last, Mn.ixN_last, Mn.atI_0, gx_mulL, gx_mulT, ux_isB, ux_notB, ux_isNN, ux_notNN, ux_isSN, ux_notSN, ux_isIN, ux_notIN, ux_isTN, ux_notTN, ux_isRN, ux_notRN, gx_sort, gx_dct, Mn.atI_1, Mn.atI_2, Mn.atI_3, List.length_map, set_lastM, set_lastL, List.getLast?_concat, List.dropLast_concat, gcn_str, gcn_int, gcn_bl, gcn_non, gcs_str, gcs_int, gcs_bl, gcs_non, gcn_tup, gcs_tup, gcn_lst, gcn_lst1, gcn_lst2, refsL_strs, refsL_nil, refsL_s, refsL_i, refsL_n, refsL_b, refsL_t, refsL_app, ux_slS, ux_addS, ux_iaddS, ux_lenS, ux_ixS, ux_inT2, ux_inT3, findK_nil, findK_cons, putKD_nil, putKD_cons, gx_rvL, gx_rvF, gx_rvT, gx_rvS, gx_repl, ws_no, ux_neB, ux_eqB, txsOf_map, ws_forE, keyOf_str, keyOf_int, joinTx_nil, List.foldl_cons, List.foldl_nil, pD, pks, Pk.get, List.drop_zero, List.drop_succ_cons, List.take_succ_cons, List.take_zero, e1, e2, e3, ux_notInT3]; repeat (refine And.intro (by omega) ?_))
  have n0 : ∀ P' : D → MH → Prop, P' (.non) m → P' (gc m .non m).1 (gc m .non m).2 := fun P' h => by
    rw [gcs_non]
    exact h
  match y, q, ef, hd, e4, e6 with
  | [], q, _, _, _, _ =>
    rw [if_pos (by decide)]
    exact q
  | [a], q, _, _, _, _ =>
    have e : askS [a] = none := by
      unfold askS
      split <;> simp_all
    rw [e] at q
    split
    · exact q
    · exact ⟨by omega, by rw [if_pos (by simp)]; exact q⟩
  | [a, c], q, _, _, _, _ =>
    have e : askS [a, c] = none := by
      unfold askS
      split <;> simp_all
    rw [e] at q
    split
    · exact q
    · exact ⟨by omega, by rw [if_pos (by simp)]; exact q⟩
  | a :: c :: d :: r, q, ef, hd, e4, e6 =>
    by_cases ha : a = 92
    case neg =>
      have e : askS (a :: c :: d :: r) = none := by
        unfold askS
        split <;> simp_all
      rw [e] at q
      rw [if_pos (by simpa using ha)]
      exact q
    subst ha
    rw [if_neg (by simp)]
    refine ⟨by omega, ?_⟩
    by_cases hd4 : d = 40
    case neg =>
      have e : askS (92 :: c :: d :: r) = none := by
        unfold askS
        split <;> simp_all
      rw [e] at q
      rw [if_pos (by simpa using hd4)]
      exact q
    subst hd4
    rw [if_neg (by simp)]
    refine ⟨by omega, ?_⟩
    by_cases hc : c = 82 ∨ c = 83 ∨ c = 65
    case neg =>
      have e : askS (92 :: c :: 40 :: r) = none := by
        show (if (c = 82 ∨ c = 83 ∨ c = 65) ∧ 41 ∈ r then _ else _) = _
        rw [if_neg fun z => hc z.1]
      rw [e] at q
      rw [if_pos (by simp only [not_or] at hc; simp [hc])]
      exact q
    rw [if_neg (by rcases hc with rfl | rfl | rfl <;> simp), ef]
    simp only [List.length_cons] at hd
    by_cases hr : 41 ∈ r
    case neg =>
      have e : askS (92 :: c :: 40 :: r) = none := by
        show (if (c = 82 ∨ c = 83 ∨ c = 65) ∧ 41 ∈ r then _ else _) = _
        rw [if_neg fun z => hr z.2]
      rw [e] at q
      rw [if_neg (by rcases hc with rfl | rfl | rfl <;> simpa using hr)]
      ((try dsimp only); try simp -implicitDefEqProofs only [ws_seq, ws_set, ws_par2, ws_exp, ws_ret, ws_if, ws_tg, ws_nil, ws_aug, thenR_nx, thenR_ret, thenR_bk, thenR_ct, wp_var, wp_con, wp_bin, wp_un, wp_nil, wp_cons, wp_fn, wp_test, wp_and, wp_or, wp_not, wq_andV, wq_orV, bIf_bl, ite_both, ux_mulST, wp_notV, wp_if, wq_chain, wp_call, wp_sl, wp_nopart, wp_part, wp_bm, wp_iter, wp_rng1, wp_rng2, wp_lc, wp_bind, wp_ok, wp_up, Tg.set, setsD, List.getElem?_cons_zero, List.getElem?_cons_succ, List.set_cons_zero, List.set_cons_succ, List.length_cons, List.length_nil, and_self, if_true, reduceCtorEq, Nat.reduceAdd, List.map_cons, List.map_nil, Nat.reduceSub, List.replicate_succ, List.replicate_zero, List.cons_append, List.nil_append, ux_add, ux_iadd, ux_sub, ux_mul, ux_div, ux_mod, ux_pow, ux_neg, ux_eqI, ux_neI, ux_eqS, ux_neS, ux_lt, ux_le, ux_gt, ux_ge, ux_abs, ux_max, ux_min, ux_intI, ux_intB, ux_lst, ux_tup, mulOk_iff, true_or, or_true, ux_lenT, ux_lenF, ux_t0, ux_t1, ux_t2, ux_t3, ux_t4, ux_t5, isB, decide_eq_true_eq, Bool.not_eq_true', decide_eq_false_iff_not, i62, true_and, and_true, if_false, Int.reduceLT, Int.reduceLE, Int.reduceAbs, Nat.reduceLT, Nat.reduceLeDiff, Nat.reducePow, Int.reducePow, Int.reduceToNat, Int.reduceNeg, Nat.reduceEqDiff, or_self, not_true, not_false_eq_true, Bool.not_true, Bool.not_false, decide_true, decide_false, Bool.false_eq_true, len_map1, app2, app3, List.append_assoc, List.length_append, Nat.zero_add, Nat.add_zero, get_newc, get_new1, get_new2, get_new3, set_newc, set_new1, set_new2, it_str, it_tup, it_frl, gx_it, gx_isLs, gx_isTx, gx_len, gx_ixI, gx_ixS, gx_getI, gx_getS, ws_storeP, ws_aug2P, gx_stI, gx_stS, gx_app, gx_pop, gx_rev, gx_cat, gx_catT, gx_sl, gx_slT, gx_slF, gx_join, gx_joinT, gx_tup, gx_tupT, gx_tupF, gx_lst, gx_lstT, gx_lstF, gx_all, gx_notInK, Mn.atI_last, Mn.ixN_last, Mn.atI_0, gx_mulL, gx_mulT, ux_isB, ux_notB, ux_isNN, ux_notNN, ux_isSN, ux_notSN, ux_isIN, ux_notIN, ux_isTN, ux_notTN, ux_isRN, ux_notRN, gx_sort, gx_dct, Mn.atI_1, Mn.atI_2, Mn.atI_3, List.length_map, set_lastM, set_lastL, List.getLast?_concat, List.dropLast_concat, gcn_str, gcn_int, gcn_bl, gcn_non, gcs_str, gcs_int, gcs_bl, gcs_non, gcn_tup, gcs_tup, gcn_lst, gcn_lst1, gcn_lst2, refsL_strs, refsL_nil, refsL_s, refsL_i, refsL_n, refsL_b, refsL_t, refsL_app, ux_slS, ux_addS, ux_iaddS, ux_lenS, ux_ixS, ux_inT2, ux_inT3, findK_nil, findK_cons, putKD_nil, putKD_cons, gx_rvL, gx_rvF, gx_rvT, gx_rvS, gx_repl, ws_no, ux_neB, ux_eqB, txsOf_map, ws_forE, keyOf_str, keyOf_int, joinTx_nil, List.foldl_cons, List.foldl_nil]; repeat (refine And.intro (by omega) ?_))
      exact q
    have e : askS (92 :: c :: 40 :: r) = some (c, r.takeWhile (· != 41)) := by
      show (if (c = 82 ∨ c = 83 ∨ c = 65) ∧ 41 ∈ r then _ else _) = _
      rw [if_pos ⟨hc, hr⟩]
    rw [e] at q
    have tw : (92 :: c :: 40 :: r).takeWhile (· != 41) = 92 :: c :: 40 :: r.takeWhile (· != 41) := by
      have c1 : (c != 41) = true := by rcases hc with rfl | rfl | rfl <;> rfl
      rw [List.takeWhile_cons, if_pos (by rfl), List.takeWhile_cons, if_pos c1, List.takeWhile_cons, if_pos (by rfl)]
    rw [if_pos (List.mem_cons_of_mem _ (List.mem_cons_of_mem _ (List.mem_cons_of_mem _ hr))), tw]
    have tk : r.take (r.takeWhile (· != 41)).length = r.takeWhile (· != 41) := by
      have := List.takeWhile_append_dropWhile (p := (· != 41)) (l := r)
      conv => lhs; rw [← this]
      rw [List.take_left']
      simp [this]
    generalize r.takeWhile (· != 41) = w at q tk
    have e7 := e4 (n + (w.length + 3))
    rw [show n + (w.length + 3) - (n + 3) = w.length by omega] at e7
    have e7 : Mn.cutD x (some ((n : Int) + 3)) (some ((n + (w.length + 3) : Nat) : Int)) = w := e7.trans tk
    ((try dsimp only); try simp -implicitDefEqProofs only [ws_seq, ws_set, ws_par2, ws_exp, ws_ret, ws_if, ws_tg, ws_nil, ws_aug, thenR_nx, thenR_ret, thenR_bk, thenR_ct, wp_var, wp_con, wp_bin, wp_un, wp_nil, wp_cons, wp_fn, wp_test, wp_and, wp_or, wp_not, wq_andV, wq_orV, bIf_bl, ite_both, ux_mulST, wp_notV, wp_if, wq_chain, wp_call, wp_sl, wp_nopart, wp_part, wp_bm, wp_iter, wp_rng1, wp_rng2, wp_lc, wp_bind, wp_ok, wp_up, Tg.set, setsD, List.getElem?_cons_zero, List.getElem?_cons_succ, List.set_cons_zero, List.set_cons_succ, List.length_cons, List.length_nil, and_self, if_true, reduceCtorEq, Nat.reduceAdd, List.map_cons, List.map_nil, Nat.reduceSub, List.replicate_succ, List.replicate_zero, List.cons_append, List.nil_append, ux_add, ux_iadd, ux_sub, ux_mul, ux_div, ux_mod, ux_pow, ux_neg, ux_eqI, ux_neI, ux_eqS, ux_neS, ux_lt, ux_le, ux_gt, ux_ge, ux_abs, ux_max, ux_min, ux_intI, ux_intB, ux_lst, ux_tup, mulOk_iff, true_or, or_true, ux_lenT, ux_lenF, ux_t0, ux_t1, ux_t2, ux_t3, ux_t4, ux_t5, isB, decide_eq_true_eq, Bool.not_eq_true', decide_eq_false_iff_not, i62, true_and, and_true, if_false, Int.reduceLT, Int.reduceLE, Int.reduceAbs, Nat.reduceLT, Nat.reduceLeDiff, Nat.reducePow, Int.reducePow, Int.reduceToNat, Int.reduceNeg, Nat.reduceEqDiff, or_self, not_true, not_false_eq_true, Bool.not_true, Bool.not_false, decide_true, decide_false, Bool.false_eq_true, len_map1, app2, app3, List.append_assoc, List.length_append, Nat.zero_add, Nat.add_zero, get_newc, get_new1, get_new2, get_new3, set_newc, set_new1, set_new2, it_str, it_tup, it_frl, gx_it, gx_isLs, gx_isTx, gx_len, gx_ixI, gx_ixS, gx_getI, gx_getS, ws_storeP, ws_aug2P, gx_stI, gx_stS, gx_app, gx_pop, gx_rev, gx_cat, gx_catT, gx_sl, gx_slT, gx_slF, gx_join, gx_joinT, gx_tup, gx_tupT, gx_tupF, gx_lst, gx_lstT, gx_lstF, gx_all, gx_notInK, Mn.atI_last, Mn.ixN_last, Mn.atI_0, gx_mulL, gx_mulT, ux_isB, ux_notB, ux_isNN, ux_notNN, ux_isSN, ux_notSN, ux_isIN, ux_notIN, ux_isTN, ux_notTN, ux_isRN, ux_notRN, gx_sort, gx_dct, Mn.atI_1, Mn.atI_2, Mn.atI_3, List.length_map, set_lastM, set_lastL, List.getLast?_concat, List.dropLast_concat, gcn_str, gcn_int, gcn_bl, gcn_non, gcs_str, gcs_int, gcs_bl, gcs_non, gcn_tup, gcs_tup, gcn_lst, gcn_lst1, gcn_lst2, refsL_strs, refsL_nil, refsL_s, refsL_i, refsL_n, refsL_b, refsL_t, refsL_app, ux_slS, ux_addS, ux_iaddS, ux_lenS, ux_ixS, ux_inT2, ux_inT3, findK_nil, findK_cons, putKD_nil, putKD_cons, gx_rvL, gx_rvF, gx_rvT, gx_rvS, gx_repl, ws_no, ux_neB, ux_eqB, txsOf_map, ws_forE, keyOf_str, keyOf_int, joinTx_nil, List.foldl_cons, List.foldl_nil, e6 (by omega)]; repeat (refine And.intro (by omega) ?_))
    have e7 : Mn.cutD x (some ((n : Int) + 3)) (some ((n + (w.length + 1 + 1 + 1) : Nat) : Int)) = w := e7
    rw [e7]
    have e8 : ((n + w.length + 4 : Nat) : Int) = ((n + (w.length + 1 + 1 + 1) : Nat) : Int) + 1 := by omega
    have q : P (.tup [.str [c], .str w, .int ((n + w.length + 4 : Nat) : Int)]) m := q
    rw [e8] at q
    exact q
theorem cut_one {x : Mn.Tx} : Mn.cutD x none (some 1) = x.take 1 := cut_to (by omega)
theorem cut_tail {x : Mn.Tx} : Mn.cutD x (some 1) none = x.drop 1 := cut_from (by omega)
theorem shown_reg {m : MH} {r : Reg} {P : D → MH → Prop} (h : RegOk r) (q : P (.str (shownR r)) m) : wp (f_shown [.int r.1, .str r.2.2] m) P := shown_then ⟨by have := h.v; omega, by have := h.v; omega⟩ h.f q
def optD : Option Mn.Tx → D
  | some t => .str t
  | none => .non
theorem fresh_d : D.tup [.int 0, .int 0, .str [49]] = regD freshR := rfl
theorem get_reg (R : Regs) (n : Mn.Tx) : ((getL R n).map regD).getD (regD freshR) = regD (regOf R n) := by
  unfold regOf
  cases getL R n <;> rfl
theorem wx_get {g gk gx : Mn.Fr → MH → Out D} {f : Mn.Fr} {m : MH} {P : D → MH → Prop} : wp (gGet g gk gx f m) P = wp (g f m) fun d m1 => match d with
    | .ref a => (match m1[a]? with
      | some (.dct _) => wp (gk f m1) fun j m2 => wp (gx f m2) fun x m3 => match m3[a]? with
        | some (.dct kvs) => (match keyOf j with
          | some j => P ((findK kvs j).getD x) m3
          | none => False)
        | _ => False
      | _ => False)
    | _ => False := by
  unfold gGet
  rw [wp_bind]
  congr 1
  funext d m1
  cases d <;> try rfl
  rename_i a
  dsimp only
  cases e : m1[a]? with
  | none => rfl
  | some o =>
    cases o <;> try rfl
    dsimp only
    rw [wp_bind]
    congr 1
    funext j m2
    rw [wp_bind]
    congr 1
    funext x m3
    cases e3 : m3[a]? with
    | none => rfl
    | some o3 =>
      cases o3 <;> try rfl
      dsimp only
      cases keyOf j <;> rfl
theorem set_same {m : MH} {a : Nat} {o : MO} (hm : m[a]? = some o) : m.set a o = m := by
  obtain ⟨h, e⟩ := List.getElem?_eq_some_iff.mp hm
  rw [← e, List.set_getElem_self]
theorem gc_keep {m : MH} {a : Nat} {o : MO} {d : D} (hd : ∀ {n : Nat}, ∀ i ∈ d.refs, i < n) (hm : a < m.length) (ho : o.refs = []) : gc m d (m.set a o) = (d, m.set a o) := by
  have e : Ext a m (m.set a o) := ⟨by rw [List.length_set]; exact Nat.le_refl _, fun i _ h => set_ne h⟩
  rw [gc_ext e hd (fun o2 h => by
    rw [List.getElem?_set_self hm] at h
    cases h
    rw [ho]
    exact fun j hj => nomatch hj)]
  rw [List.take_of_length_le (by rw [List.length_set]; exact Nat.le_refl _)]
theorem regD_refs (R : Regs) : MO.refs (.dct (dK regD R)) = [] := by
  show refsK (dK regD R) = []
  induction R with
  | nil => rfl
  | cons p R ih =>
    show (regD p.2).refs ++ refsK (dK regD R) = []
    rw [ih]
    rfl
theorem dK_len {α : Type} {f : α → D} {L : List (Mn.Tx × α)} : (dK f L).length = L.length := List.length_map ..
theorem register_told_then {m : MH} {a : Nat} {inn : Mn.Tx} {R : Regs} {P : D → MH → Prop} (hm : m[a]? = some (.dct (dK regD R))) (hR : RegsOk R) (hl : R.length ≤ 90000) (hx : inn.length ≤ 1000)
    (q : P (optD (toldR inn R).1) (m.set a (.dct (dK regD (toldR inn R).2)))) : wp (f_register_told [.str inn, .ref a] m) P := by
  have lt := (List.getElem?_eq_some_iff.mp hm).1
  have dl : (inn.drop 1).length ≤ 1000 := by rw [List.length_drop]; omega
  apply wp_fnD
  unfold b_register_told
  have nl : (nameOf inn).length ≤ 1000 := by
    unfold nameOf
    split <;> omega
  have key : ∀ R', toldR inn R = (some (shownR (regOf R' (nameOf inn))), R') → RegsOk R' → wp (f_shown [.int (regOf R' (nameOf inn)).1, .str (regOf R' (nameOf inn)).2.2] (m.set a (.dct (dK regD R')))) fun d m1 => P (gc m d m1).1 (gc m d m1).2 := fun R' e h' => by
    refine shown_reg (h'.of _) ?_
    rw [gc_keep no_refs_str lt (regD_refs R')]
    rw [e] at q
    exact q
  by_cases hp : inn.take 1 = [43]
  · have e1 : plusB inn = true := decide_eq_true hp
    have e2 : nameOf inn = inn.drop 1 := by unfold nameOf; rw [if_pos e1]
    have e3 : regsBy inn R = putL R (nameOf inn) (stepF (regOf R (nameOf inn))) := by unfold regsBy; rw [if_pos e1]
    unfold toldR at q key
    rw [e3, e2] at q key
    rw [e2] at nl
    ((try dsimp only); try simp -implicitDefEqProofs only [ws_seq, ws_set, ws_par2, ws_exp, ws_ret, ws_if, ws_tg, ws_nil, ws_aug, thenR_nx, thenR_ret, thenR_bk, thenR_ct, wp_var, wp_con, wp_bin, wp_un, wp_nil, wp_cons, wp_fn, wp_test, wp_and, wp_or, wp_not, wq_andV, wq_orV, bIf_bl, ite_both, ux_mulST, wp_notV, wp_if, wq_chain, wp_call, wp_sl, wp_nopart, wp_part, wp_bm, wp_iter, wp_rng1, wp_rng2, wp_lc, wp_bind, wp_ok, wp_up, Tg.set, setsD, List.getElem?_cons_zero, List.getElem?_cons_succ, List.set_cons_zero, List.set_cons_succ, List.length_cons, List.length_nil, and_self, if_true, reduceCtorEq, Nat.reduceAdd, List.map_cons, List.map_nil, Nat.reduceSub, List.replicate_succ, List.replicate_zero, List.cons_append, List.nil_append, ux_add, ux_iadd, ux_sub, ux_mul, ux_div, ux_mod, ux_pow, ux_neg, ux_eqI, ux_neI, ux_eqS, ux_neS, ux_lt, ux_le, ux_gt, ux_ge, ux_abs, ux_max, ux_min, ux_intI, ux_intB, ux_lst, ux_tup, mulOk_iff, true_or, or_true, ux_lenT, ux_lenF, ux_t0, ux_t1, ux_t2, ux_t3, ux_t4, ux_t5, isB, decide_eq_true_eq, Bool.not_eq_true', decide_eq_false_iff_not, i62, true_and, and_true, if_false, Int.reduceLT, Int.reduceLE, Int.reduceAbs, Nat.reduceLT, Nat.reduceLeDiff, Nat.reducePow, Int.reducePow, Int.reduceToNat, Int.reduceNeg, Nat.reduceEqDiff, or_self, not_true, not_false_eq_true, Bool.not_true, Bool.not_false, decide_true, decide_false, Bool.false_eq_true, len_map1, app2, app3, List.append_assoc, List.length_append, Nat.zero_add, Nat.add_zero, get_newc, get_new1, get_new2, get_new3, set_newc, set_new1, set_new2, it_str, it_tup, it_frl, gx_it, gx_isLs, gx_isTx, gx_len, gx_ixI, gx_ixS, gx_getI, gx_getS, ws_storeP, ws_aug2P, gx_stI, gx_stS, gx_app, gx_pop, gx_rev, gx_cat, gx_catT, gx_sl, gx_slT, gx_slF, gx_join, gx_joinT, gx_tup, gx_tupT, gx_tupF, gx_lst, gx_lstT, gx_lstF, gx_all, gx_notInK, Mn.atI_last, Mn.ixN_last, Mn.atI_0, gx_mulL, gx_mulT, ux_isB, ux_notB, ux_isNN, ux_notNN, ux_isSN, ux_notSN, ux_isIN, ux_notIN, ux_isTN, ux_notTN, ux_isRN, ux_notRN, gx_sort, gx_dct, Mn.atI_1, Mn.atI_2, Mn.atI_3, List.length_map, set_lastM, set_lastL, List.getLast?_concat, List.dropLast_concat, gcn_str, gcn_int, gcn_bl, gcn_non, gcs_str, gcs_int, gcs_bl, gcs_non, gcn_tup, gcs_tup, gcn_lst, gcn_lst1, gcn_lst2, refsL_strs, refsL_nil, refsL_s, refsL_i, refsL_n, refsL_b, refsL_t, refsL_app, ux_slS, ux_addS, ux_iaddS, ux_lenS, ux_ixS, ux_inT2, ux_inT3, findK_nil, findK_cons, putKD_nil, putKD_cons, gx_rvL, gx_rvF, gx_rvT, gx_rvS, gx_repl, ws_no, ux_neB, ux_eqB, txsOf_map, ws_forE, keyOf_str, keyOf_int, joinTx_nil, List.foldl_cons, List.foldl_nil, pD, pks, Pk.get, List.drop_zero, List.drop_succ_cons, List.take_succ_cons, List.take_zero, cut_one, cut_tail, hp]; repeat (refine And.intro (by omega) ?_))
    refine is_name_then nl ?_
    by_cases hn : nameT (inn.drop 1) 1 = true
    · rw [hn]
      have hm2 := fun o => set_get hm (o2 := o)
      ((try dsimp only); try simp -implicitDefEqProofs only [ws_seq, ws_set, ws_par2, ws_exp, ws_ret, ws_if, ws_tg, ws_nil, ws_aug, thenR_nx, thenR_ret, thenR_bk, thenR_ct, wp_var, wp_con, wp_bin, wp_un, wp_nil, wp_cons, wp_fn, wp_test, wp_and, wp_or, wp_not, wq_andV, wq_orV, bIf_bl, ite_both, ux_mulST, wp_notV, wp_if, wq_chain, wp_call, wp_sl, wp_nopart, wp_part, wp_bm, wp_iter, wp_rng1, wp_rng2, wp_lc, wp_bind, wp_ok, wp_up, Tg.set, setsD, List.getElem?_cons_zero, List.getElem?_cons_succ, List.set_cons_zero, List.set_cons_succ, List.length_cons, List.length_nil, and_self, if_true, reduceCtorEq, Nat.reduceAdd, List.map_cons, List.map_nil, Nat.reduceSub, List.replicate_succ, List.replicate_zero, List.cons_append, List.nil_append, ux_add, ux_iadd, ux_sub, ux_mul, ux_div, ux_mod, ux_pow, ux_neg, ux_eqI, ux_neI, ux_eqS, ux_neS, ux_lt, ux_le, ux_gt, ux_ge, ux_abs, ux_max, ux_min, ux_intI, ux_intB, ux_lst, ux_tup, mulOk_iff, true_or, or_true, ux_lenT, ux_lenF, ux_t0, ux_t1, ux_t2, ux_t3, ux_t4, ux_t5, isB, decide_eq_true_eq, Bool.not_eq_true', decide_eq_false_iff_not, i62, true_and, and_true, if_false, Int.reduceLT, Int.reduceLE, Int.reduceAbs, Nat.reduceLT, Nat.reduceLeDiff, Nat.reducePow, Int.reducePow, Int.reduceToNat, Int.reduceNeg, Nat.reduceEqDiff, or_self, not_true, not_false_eq_true, Bool.not_true, Bool.not_false, decide_true, decide_false, Bool.false_eq_true, len_map1, app2, app3, List.append_assoc, List.length_append, Nat.zero_add, Nat.add_zero, get_newc, get_new1, get_new2, get_new3, set_newc, set_new1, set_new2, it_str, it_tup, it_frl, gx_it, gx_isLs, gx_isTx, gx_len, gx_ixI, gx_ixS, gx_getI, gx_getS, ws_storeP, ws_aug2P, gx_stI, gx_stS, gx_app, gx_pop, gx_rev, gx_cat, gx_catT, gx_sl, gx_slT, gx_slF, gx_join, gx_joinT, gx_tup, gx_tupT, gx_tupF, gx_lst, gx_lstT, gx_lstF, gx_all, gx_notInK, Mn.atI_last, Mn.ixN_last, Mn.atI_0, gx_mulL, gx_mulT, ux_isB, ux_notB, ux_isNN, ux_notNN, ux_isSN, ux_notSN, ux_isIN, ux_notIN, ux_isTN, ux_notTN, ux_isRN, ux_notRN, gx_sort, gx_dct, Mn.atI_1, Mn.atI_2, Mn.atI_3, List.length_map, set_lastM, set_lastL, List.getLast?_concat, List.dropLast_concat, gcn_str, gcn_int, gcn_bl, gcn_non, gcs_str, gcs_int, gcs_bl, gcs_non, gcn_tup, gcs_tup, gcn_lst, gcn_lst1, gcn_lst2, refsL_strs, refsL_nil, refsL_s, refsL_i, refsL_n, refsL_b, refsL_t, refsL_app, ux_slS, ux_addS, ux_iaddS, ux_lenS, ux_ixS, ux_inT2, ux_inT3, findK_nil, findK_cons, putKD_nil, putKD_cons, gx_rvL, gx_rvF, gx_rvT, gx_rvS, gx_repl, ws_no, ux_neB, ux_eqB, txsOf_map, ws_forE, keyOf_str, keyOf_int, joinTx_nil, List.foldl_cons, List.foldl_nil, pD, pks, Pk.get, List.drop_zero, List.drop_succ_cons, List.take_succ_cons, List.take_zero, cut_one, cut_tail, hp, wx_get, hm, find_dK, fresh_d, get_reg]; repeat (refine And.intro (by omega) ?_))
      refine stepped_then ?_
      ((try dsimp only); try simp -implicitDefEqProofs only [ws_seq, ws_set, ws_par2, ws_exp, ws_ret, ws_if, ws_tg, ws_nil, ws_aug, thenR_nx, thenR_ret, thenR_bk, thenR_ct, wp_var, wp_con, wp_bin, wp_un, wp_nil, wp_cons, wp_fn, wp_test, wp_and, wp_or, wp_not, wq_andV, wq_orV, bIf_bl, ite_both, ux_mulST, wp_notV, wp_if, wq_chain, wp_call, wp_sl, wp_nopart, wp_part, wp_bm, wp_iter, wp_rng1, wp_rng2, wp_lc, wp_bind, wp_ok, wp_up, Tg.set, setsD, List.getElem?_cons_zero, List.getElem?_cons_succ, List.set_cons_zero, List.set_cons_succ, List.length_cons, List.length_nil, and_self, if_true, reduceCtorEq, Nat.reduceAdd, List.map_cons, List.map_nil, Nat.reduceSub, List.replicate_succ, List.replicate_zero, List.cons_append, List.nil_append, ux_add, ux_iadd, ux_sub, ux_mul, ux_div, ux_mod, ux_pow, ux_neg, ux_eqI, ux_neI, ux_eqS, ux_neS, ux_lt, ux_le, ux_gt, ux_ge, ux_abs, ux_max, ux_min, ux_intI, ux_intB, ux_lst, ux_tup, mulOk_iff, true_or, or_true, ux_lenT, ux_lenF, ux_t0, ux_t1, ux_t2, ux_t3, ux_t4, ux_t5, isB, decide_eq_true_eq, Bool.not_eq_true', decide_eq_false_iff_not, i62, true_and, and_true, if_false, Int.reduceLT, Int.reduceLE, Int.reduceAbs, Nat.reduceLT, Nat.reduceLeDiff, Nat.reducePow, Int.reducePow, Int.reduceToNat, Int.reduceNeg, Nat.reduceEqDiff, or_self, not_true, not_false_eq_true, Bool.not_true, Bool.not_false, decide_true, decide_false, Bool.false_eq_true, len_map1, app2, app3, List.append_assoc, List.length_append, Nat.zero_add, Nat.add_zero, get_newc, get_new1, get_new2, get_new3, set_newc, set_new1, set_new2, it_str, it_tup, it_frl, gx_it, gx_isLs, gx_isTx, gx_len, gx_ixI, gx_ixS, gx_getI, gx_getS, ws_storeP, ws_aug2P, gx_stI, gx_stS, gx_app, gx_pop, gx_rev, gx_cat, gx_catT, gx_sl, gx_slT, gx_slF, gx_join, gx_joinT, gx_tup, gx_tupT, gx_tupF, gx_lst, gx_lstT, gx_lstF, gx_all, gx_notInK, Mn.atI_last, Mn.ixN_last, Mn.atI_0, gx_mulL, gx_mulT, ux_isB, ux_notB, ux_isNN, ux_notNN, ux_isSN, ux_notSN, ux_isIN, ux_notIN, ux_isTN, ux_notTN, ux_isRN, ux_notRN, gx_sort, gx_dct, Mn.atI_1, Mn.atI_2, Mn.atI_3, List.length_map, set_lastM, set_lastL, List.getLast?_concat, List.dropLast_concat, gcn_str, gcn_int, gcn_bl, gcn_non, gcs_str, gcs_int, gcs_bl, gcs_non, gcn_tup, gcs_tup, gcn_lst, gcn_lst1, gcn_lst2, refsL_strs, refsL_nil, refsL_s, refsL_i, refsL_n, refsL_b, refsL_t, refsL_app, ux_slS, ux_addS, ux_iaddS, ux_lenS, ux_ixS, ux_inT2, ux_inT3, findK_nil, findK_cons, putKD_nil, putKD_cons, gx_rvL, gx_rvF, gx_rvT, gx_rvS, gx_repl, ws_no, ux_neB, ux_eqB, txsOf_map, ws_forE, keyOf_str, keyOf_int, joinTx_nil, List.foldl_cons, List.foldl_nil, hm, hm2, wx_get, dK_len, put_dK regD (inn.drop 1) _ hR.nd, find_dK, fresh_d, get_reg]; repeat (refine And.intro (by omega) ?_))
      exact key _ (by rw [if_pos hn]) (hR.put _ (hR.of _).step)
    · rw [if_neg hn] at q
      rw [Bool.eq_false_iff.mpr hn]
      ((try dsimp only); try simp -implicitDefEqProofs only [ws_seq, ws_set, ws_par2, ws_exp, ws_ret, ws_if, ws_tg, ws_nil, ws_aug, thenR_nx, thenR_ret, thenR_bk, thenR_ct, wp_var, wp_con, wp_bin, wp_un, wp_nil, wp_cons, wp_fn, wp_test, wp_and, wp_or, wp_not, wq_andV, wq_orV, bIf_bl, ite_both, ux_mulST, wp_notV, wp_if, wq_chain, wp_call, wp_sl, wp_nopart, wp_part, wp_bm, wp_iter, wp_rng1, wp_rng2, wp_lc, wp_bind, wp_ok, wp_up, Tg.set, setsD, List.getElem?_cons_zero, List.getElem?_cons_succ, List.set_cons_zero, List.set_cons_succ, List.length_cons, List.length_nil, and_self, if_true, reduceCtorEq, Nat.reduceAdd, List.map_cons, List.map_nil, Nat.reduceSub, List.replicate_succ, List.replicate_zero, List.cons_append, List.nil_append, ux_add, ux_iadd, ux_sub, ux_mul, ux_div, ux_mod, ux_pow, ux_neg, ux_eqI, ux_neI, ux_eqS, ux_neS, ux_lt, ux_le, ux_gt, ux_ge, ux_abs, ux_max, ux_min, ux_intI, ux_intB, ux_lst, ux_tup, mulOk_iff, true_or, or_true, ux_lenT, ux_lenF, ux_t0, ux_t1, ux_t2, ux_t3, ux_t4, ux_t5, isB, decide_eq_true_eq, Bool.not_eq_true', decide_eq_false_iff_not, i62, true_and, and_true, if_false, Int.reduceLT, Int.reduceLE, Int.reduceAbs, Nat.reduceLT, Nat.reduceLeDiff, Nat.reducePow, Int.reducePow, Int.reduceToNat, Int.reduceNeg, Nat.reduceEqDiff, or_self, not_true, not_false_eq_true, Bool.not_true, Bool.not_false, decide_true, decide_false, Bool.false_eq_true, len_map1, app2, app3, List.append_assoc, List.length_append, Nat.zero_add, Nat.add_zero, get_newc, get_new1, get_new2, get_new3, set_newc, set_new1, set_new2, it_str, it_tup, it_frl, gx_it, gx_isLs, gx_isTx, gx_len, gx_ixI, gx_ixS, gx_getI, gx_getS, ws_storeP, ws_aug2P, gx_stI, gx_stS, gx_app, gx_pop, gx_rev, gx_cat, gx_catT, gx_sl, gx_slT, gx_slF, gx_join, gx_joinT, gx_tup, gx_tupT, gx_tupF, gx_lst, gx_lstT, gx_lstF, gx_all, gx_notInK, Mn.atI_last, Mn.ixN_last, Mn.atI_0, gx_mulL, gx_mulT, ux_isB, ux_notB, ux_isNN, ux_notNN, ux_isSN, ux_notSN, ux_isIN, ux_notIN, ux_isTN, ux_notTN, ux_isRN, ux_notRN, gx_sort, gx_dct, Mn.atI_1, Mn.atI_2, Mn.atI_3, List.length_map, set_lastM, set_lastL, List.getLast?_concat, List.dropLast_concat, gcn_str, gcn_int, gcn_bl, gcn_non, gcs_str, gcs_int, gcs_bl, gcs_non, gcn_tup, gcs_tup, gcn_lst, gcn_lst1, gcn_lst2, refsL_strs, refsL_nil, refsL_s, refsL_i, refsL_n, refsL_b, refsL_t, refsL_app, ux_slS, ux_addS, ux_iaddS, ux_lenS, ux_ixS, ux_inT2, ux_inT3, findK_nil, findK_cons, putKD_nil, putKD_cons, gx_rvL, gx_rvF, gx_rvT, gx_rvS, gx_repl, ws_no, ux_neB, ux_eqB, txsOf_map, ws_forE, keyOf_str, keyOf_int, joinTx_nil, List.foldl_cons, List.foldl_nil]; repeat (refine And.intro (by omega) ?_))
      rw [set_same hm] at q
      exact q
  · have e1 : plusB inn = false := decide_eq_false hp
    have e2 : nameOf inn = inn := by unfold nameOf; rw [if_neg (by rw [e1]; simp)]
    have e3 : regsBy inn R = R := by unfold regsBy; rw [if_neg (by rw [e1]; simp)]
    unfold toldR at q key
    rw [e3, e2] at q key
    rw [e2] at nl
    ((try dsimp only); try simp -implicitDefEqProofs only [ws_seq, ws_set, ws_par2, ws_exp, ws_ret, ws_if, ws_tg, ws_nil, ws_aug, thenR_nx, thenR_ret, thenR_bk, thenR_ct, wp_var, wp_con, wp_bin, wp_un, wp_nil, wp_cons, wp_fn, wp_test, wp_and, wp_or, wp_not, wq_andV, wq_orV, bIf_bl, ite_both, ux_mulST, wp_notV, wp_if, wq_chain, wp_call, wp_sl, wp_nopart, wp_part, wp_bm, wp_iter, wp_rng1, wp_rng2, wp_lc, wp_bind, wp_ok, wp_up, Tg.set, setsD, List.getElem?_cons_zero, List.getElem?_cons_succ, List.set_cons_zero, List.set_cons_succ, List.length_cons, List.length_nil, and_self, if_true, reduceCtorEq, Nat.reduceAdd, List.map_cons, List.map_nil, Nat.reduceSub, List.replicate_succ, List.replicate_zero, List.cons_append, List.nil_append, ux_add, ux_iadd, ux_sub, ux_mul, ux_div, ux_mod, ux_pow, ux_neg, ux_eqI, ux_neI, ux_eqS, ux_neS, ux_lt, ux_le, ux_gt, ux_ge, ux_abs, ux_max, ux_min, ux_intI, ux_intB, ux_lst, ux_tup, mulOk_iff, true_or, or_true, ux_lenT, ux_lenF, ux_t0, ux_t1, ux_t2, ux_t3, ux_t4, ux_t5, isB, decide_eq_true_eq, Bool.not_eq_true', decide_eq_false_iff_not, i62, true_and, and_true, if_false, Int.reduceLT, Int.reduceLE, Int.reduceAbs, Nat.reduceLT, Nat.reduceLeDiff, Nat.reducePow, Int.reducePow, Int.reduceToNat, Int.reduceNeg, Nat.reduceEqDiff, or_self, not_true, not_false_eq_true, Bool.not_true, Bool.not_false, decide_true, decide_false, Bool.false_eq_true, len_map1, app2, app3, List.append_assoc, List.length_append, Nat.zero_add, Nat.add_zero, get_newc, get_new1, get_new2, get_new3, set_newc, set_new1, set_new2, it_str, it_tup, it_frl, gx_it, gx_isLs, gx_isTx, gx_len, gx_ixI, gx_ixS, gx_getI, gx_getS, ws_storeP, ws_aug2P, gx_stI, gx_stS, gx_app, gx_pop, gx_rev, gx_cat, gx_catT, gx_sl, gx_slT, gx_slF, gx_join, gx_joinT, gx_tup, gx_tupT, gx_tupF, gx_lst, gx_lstT, gx_lstF, gx_all, gx_notInK, Mn.atI_last, Mn.ixN_last, Mn.atI_0, gx_mulL, gx_mulT, ux_isB, ux_notB, ux_isNN, ux_notNN, ux_isSN, ux_notSN, ux_isIN, ux_notIN, ux_isTN, ux_notTN, ux_isRN, ux_notRN, gx_sort, gx_dct, Mn.atI_1, Mn.atI_2, Mn.atI_3, List.length_map, set_lastM, set_lastL, List.getLast?_concat, List.dropLast_concat, gcn_str, gcn_int, gcn_bl, gcn_non, gcs_str, gcs_int, gcs_bl, gcs_non, gcn_tup, gcs_tup, gcn_lst, gcn_lst1, gcn_lst2, refsL_strs, refsL_nil, refsL_s, refsL_i, refsL_n, refsL_b, refsL_t, refsL_app, ux_slS, ux_addS, ux_iaddS, ux_lenS, ux_ixS, ux_inT2, ux_inT3, findK_nil, findK_cons, putKD_nil, putKD_cons, gx_rvL, gx_rvF, gx_rvT, gx_rvS, gx_repl, ws_no, ux_neB, ux_eqB, txsOf_map, ws_forE, keyOf_str, keyOf_int, joinTx_nil, List.foldl_cons, List.foldl_nil, pD, pks, Pk.get, List.drop_zero, List.drop_succ_cons, List.take_succ_cons, List.take_zero, cut_one, cut_tail, hp]; repeat (refine And.intro (by omega) ?_))
    refine is_name_then nl ?_
    by_cases hn : nameT inn 1 = true
    · rw [hn]
      ((try dsimp only); try simp -implicitDefEqProofs only [ws_seq, ws_set, ws_par2, ws_exp, ws_ret, ws_if, ws_tg, ws_nil, ws_aug, thenR_nx, thenR_ret, thenR_bk, thenR_ct, wp_var, wp_con, wp_bin, wp_un, wp_nil, wp_cons, wp_fn, wp_test, wp_and, wp_or, wp_not, wq_andV, wq_orV, bIf_bl, ite_both, ux_mulST, wp_notV, wp_if, wq_chain, wp_call, wp_sl, wp_nopart, wp_part, wp_bm, wp_iter, wp_rng1, wp_rng2, wp_lc, wp_bind, wp_ok, wp_up, Tg.set, setsD, List.getElem?_cons_zero, List.getElem?_cons_succ, List.set_cons_zero, List.set_cons_succ, List.length_cons, List.length_nil, and_self, if_true, reduceCtorEq, Nat.reduceAdd, List.map_cons, List.map_nil, Nat.reduceSub, List.replicate_succ, List.replicate_zero, List.cons_append, List.nil_append, ux_add, ux_iadd, ux_sub, ux_mul, ux_div, ux_mod, ux_pow, ux_neg, ux_eqI, ux_neI, ux_eqS, ux_neS, ux_lt, ux_le, ux_gt, ux_ge, ux_abs, ux_max, ux_min, ux_intI, ux_intB, ux_lst, ux_tup, mulOk_iff, true_or, or_true, ux_lenT, ux_lenF, ux_t0, ux_t1, ux_t2, ux_t3, ux_t4, ux_t5, isB, decide_eq_true_eq, Bool.not_eq_true', decide_eq_false_iff_not, i62, true_and, and_true, if_false, Int.reduceLT, Int.reduceLE, Int.reduceAbs, Nat.reduceLT, Nat.reduceLeDiff, Nat.reducePow, Int.reducePow, Int.reduceToNat, Int.reduceNeg, Nat.reduceEqDiff, or_self, not_true, not_false_eq_true, Bool.not_true, Bool.not_false, decide_true, decide_false, Bool.false_eq_true, len_map1, app2, app3, List.append_assoc, List.length_append, Nat.zero_add, Nat.add_zero, get_newc, get_new1, get_new2, get_new3, set_newc, set_new1, set_new2, it_str, it_tup, it_frl, gx_it, gx_isLs, gx_isTx, gx_len, gx_ixI, gx_ixS, gx_getI, gx_getS, ws_storeP, ws_aug2P, gx_stI, gx_stS, gx_app, gx_pop, gx_rev, gx_cat, gx_catT, gx_sl, gx_slT, gx_slF, gx_join, gx_joinT, gx_tup, gx_tupT, gx_tupF, gx_lst, gx_lstT, gx_lstF, gx_all, gx_notInK, Mn.atI_last, Mn.ixN_last, Mn.atI_0, gx_mulL, gx_mulT, ux_isB, ux_notB, ux_isNN, ux_notNN, ux_isSN, ux_notSN, ux_isIN, ux_notIN, ux_isTN, ux_notTN, ux_isRN, ux_notRN, gx_sort, gx_dct, Mn.atI_1, Mn.atI_2, Mn.atI_3, List.length_map, set_lastM, set_lastL, List.getLast?_concat, List.dropLast_concat, gcn_str, gcn_int, gcn_bl, gcn_non, gcs_str, gcs_int, gcs_bl, gcs_non, gcn_tup, gcs_tup, gcn_lst, gcn_lst1, gcn_lst2, refsL_strs, refsL_nil, refsL_s, refsL_i, refsL_n, refsL_b, refsL_t, refsL_app, ux_slS, ux_addS, ux_iaddS, ux_lenS, ux_ixS, ux_inT2, ux_inT3, findK_nil, findK_cons, putKD_nil, putKD_cons, gx_rvL, gx_rvF, gx_rvT, gx_rvS, gx_repl, ws_no, ux_neB, ux_eqB, txsOf_map, ws_forE, keyOf_str, keyOf_int, joinTx_nil, List.foldl_cons, List.foldl_nil, pD, pks, Pk.get, List.drop_zero, List.drop_succ_cons, List.take_succ_cons, List.take_zero, cut_one, cut_tail, hp, wx_get, hm, find_dK, fresh_d, get_reg]; repeat (refine And.intro (by omega) ?_))
      have k := key R (by rw [if_pos hn]) hR
      rw [set_same hm] at k
      exact k
    · rw [if_neg hn] at q
      rw [Bool.eq_false_iff.mpr hn]
      ((try dsimp only); try simp -implicitDefEqProofs only [ws_seq, ws_set, ws_par2, ws_exp, ws_ret, ws_if, ws_tg, ws_nil, ws_aug, thenR_nx, thenR_ret, thenR_bk, thenR_ct, wp_var, wp_con, wp_bin, wp_un, wp_nil, wp_cons, wp_fn, wp_test, wp_and, wp_or, wp_not, wq_andV, wq_orV, bIf_bl, ite_both, ux_mulST, wp_notV, wp_if, wq_chain, wp_call, wp_sl, wp_nopart, wp_part, wp_bm, wp_iter, wp_rng1, wp_rng2, wp_lc, wp_bind, wp_ok, wp_up, Tg.set, setsD, List.getElem?_cons_zero, List.getElem?_cons_succ, List.set_cons_zero, List.set_cons_succ, List.length_cons, List.length_nil, and_self, if_true, reduceCtorEq, Nat.reduceAdd, List.map_cons, List.map_nil, Nat.reduceSub, List.replicate_succ, List.replicate_zero, List.cons_append, List.nil_append, ux_add, ux_iadd, ux_sub, ux_mul, ux_div, ux_mod, ux_pow, ux_neg, ux_eqI, ux_neI, ux_eqS, ux_neS, ux_lt, ux_le, ux_gt, ux_ge, ux_abs, ux_max, ux_min, ux_intI, ux_intB, ux_lst, ux_tup, mulOk_iff, true_or, or_true, ux_lenT, ux_lenF, ux_t0, ux_t1, ux_t2, ux_t3, ux_t4, ux_t5, isB, decide_eq_true_eq, Bool.not_eq_true', decide_eq_false_iff_not, i62, true_and, and_true, if_false, Int.reduceLT, Int.reduceLE, Int.reduceAbs, Nat.reduceLT, Nat.reduceLeDiff, Nat.reducePow, Int.reducePow, Int.reduceToNat, Int.reduceNeg, Nat.reduceEqDiff, or_self, not_true, not_false_eq_true, Bool.not_true, Bool.not_false, decide_true, decide_false, Bool.false_eq_true, len_map1, app2, app3, List.append_assoc, List.length_append, Nat.zero_add, Nat.add_zero, get_newc, get_new1, get_new2, get_new3, set_newc, set_new1, set_new2, it_str, it_tup, it_frl, gx_it, gx_isLs, gx_isTx, gx_len, gx_ixI, gx_ixS, gx_getI, gx_getS, ws_storeP, ws_aug2P, gx_stI, gx_stS, gx_app, gx_pop, gx_rev, gx_cat, gx_catT, gx_sl, gx_slT, gx_slF, gx_join, gx_joinT, gx_tup, gx_tupT, gx_tupF, gx_lst, gx_lstT, gx_lstF, gx_all, gx_notInK, Mn.atI_last, Mn.ixN_last, Mn.atI_0, gx_mulL, gx_mulT, ux_isB, ux_notB, ux_isNN, ux_notNN, ux_isSN, ux_notSN, ux_isIN, ux_notIN, ux_isTN, ux_notTN, ux_isRN, ux_notRN, gx_sort, gx_dct, Mn.atI_1, Mn.atI_2, Mn.atI_3, List.length_map, set_lastM, set_lastL, List.getLast?_concat, List.dropLast_concat, gcn_str, gcn_int, gcn_bl, gcn_non, gcs_str, gcs_int, gcs_bl, gcs_non, gcn_tup, gcs_tup, gcn_lst, gcn_lst1, gcn_lst2, refsL_strs, refsL_nil, refsL_s, refsL_i, refsL_n, refsL_b, refsL_t, refsL_app, ux_slS, ux_addS, ux_iaddS, ux_lenS, ux_ixS, ux_inT2, ux_inT3, findK_nil, findK_cons, putKD_nil, putKD_cons, gx_rvL, gx_rvF, gx_rvT, gx_rvS, gx_repl, ws_no, ux_neB, ux_eqB, txsOf_map, ws_forE, keyOf_str, keyOf_int, joinTx_nil, List.foldl_cons, List.foldl_nil]; repeat (refine And.intro (by omega) ?_))
      rw [set_same hm] at q
      exact q
theorem dig_int : ∀ c, 48 ≤ c → c ≤ 57 → PySem.intText? (tx [c]) = some ((c : Int) - 48) := by
  have h : ∀ c, c < 58 → 48 ≤ c → PySem.intText? (tx [c]) = some ((c : Int) - 48) := by decide +kernel
  exact fun c h1 h2 => h c (by omega) h1
theorem ux_dig {m : MH} {c : Nat} {P : D → MH → Prop} (h1 : 48 ≤ c) (h2 : c ≤ 57) : wp (up (intF [.str [c]] m)) P = P (.int ((c : Int) - 48)) m := by
  show wp (up (if [c].length ≤ 640 then (PySem.intText? (tx [c])).map fun n => (D.int n, m) else none)) P = _
  rw [dig_int c h1 h2]
  rfl
theorem digs_mem {c : Nat} : c ∈ ([48, 49, 50, 51, 52, 53, 54, 55, 56, 57] : List Nat) ↔ 48 ≤ c ∧ c ≤ 57 := by
  simp
  omega
def StrsOk2 (S : Strs) : Prop := ∀ p ∈ S, p.2.length ≤ 200
theorem get_strD (S : Strs) (n : Mn.Tx) : ((getL S n).map D.str).getD (.str []) = .str ((getL S n).getD []) := by
  cases getL S n <;> rfl
theorem ux_tupN {m : MH} {A : List Mn.Tx} {k : Nat} {P : D → MH → Prop} (h : k < A.length) : wp (up (ixD (.tup (A.map D.str)) (.int (k : Nat)) m)) P = P (.str (A.getD k [])) m := by
  show wp (up ((atI (A.map D.str) (k : Nat)).map fun d => (d, m))) P = _
  rw [atI_pos (by omega) (by rw [List.length_map]; omega), Int.toNat_natCast, List.getElem?_map, List.getElem?_eq_getElem h, List.getD_eq_getElem?_getD, List.getElem?_eq_getElem h]
  rfl
theorem opt_refs {o : Option Mn.Tx} {n : Nat} : ∀ i ∈ (optD o).refs, i < n := by
  cases o
  · exact no_refs_non
  · exact no_refs_str
theorem told_by_then {m : MH} {a b c : Nat} {inn : Mn.Tx} {R : Regs} {S : Strs} {A : List Mn.Tx} {P : D → MH → Prop} (hm : m[a]? = some (.dct (dK regD R))) (hb : m[b]? = some (.dct (dK D.str S))) (hR : RegsOk R) (hl : R.length ≤ 90000) (hA : A.length ≤ 90000) (hx : inn.length ≤ 1000)
    (q : P (optD (told S A c inn R).1) (m.set a (.dct (dK regD (told S A c inn R).2)))) : wp (f_told_by [.str [c], .str inn, .ref a, .ref b, .tup (A.map D.str)] m) P := by
  apply wp_fnD
  unfold b_told_by
  unfold told at q
  by_cases c1 : c = 82
  · subst c1
    rw [if_pos rfl] at q
    ((try dsimp only); try simp -implicitDefEqProofs only [ws_seq, ws_set, ws_par2, ws_exp, ws_ret, ws_if, ws_tg, ws_nil, ws_aug, thenR_nx, thenR_ret, thenR_bk, thenR_ct, wp_var, wp_con, wp_bin, wp_un, wp_nil, wp_cons, wp_fn, wp_test, wp_and, wp_or, wp_not, wq_andV, wq_orV, bIf_bl, ite_both, ux_mulST, wp_notV, wp_if, wq_chain, wp_call, wp_sl, wp_nopart, wp_part, wp_bm, wp_iter, wp_rng1, wp_rng2, wp_lc, wp_bind, wp_ok, wp_up, Tg.set, setsD, List.getElem?_cons_zero, List.getElem?_cons_succ, List.set_cons_zero, List.set_cons_succ, List.length_cons, List.length_nil, and_self, if_true, reduceCtorEq, Nat.reduceAdd, List.map_cons, List.map_nil, Nat.reduceSub, List.replicate_succ, List.replicate_zero, List.cons_append, List.nil_append, ux_add, ux_iadd, ux_sub, ux_mul, ux_div, ux_mod, ux_pow, ux_neg, ux_eqI, ux_neI, ux_eqS, ux_neS, ux_lt, ux_le, ux_gt, ux_ge, ux_abs, ux_max, ux_min, ux_intI, ux_intB, ux_lst, ux_tup, mulOk_iff, true_or, or_true, ux_lenT, ux_lenF, ux_t0, ux_t1, ux_t2, ux_t3, ux_t4, ux_t5, isB, decide_eq_true_eq, Bool.not_eq_true', decide_eq_false_iff_not, i62, true_and, and_true, if_false, Int.reduceLT, Int.reduceLE, Int.reduceAbs, Nat.reduceLT, Nat.reduceLeDiff, Nat.reducePow, Int.reducePow, Int.reduceToNat, Int.reduceNeg, Nat.reduceEqDiff, or_self, not_true, not_false_eq_true, Bool.not_true, Bool.not_false, decide_true, decide_false, Bool.false_eq_true, len_map1, app2, app3, List.append_assoc, List.length_append, Nat.zero_add, Nat.add_zero, get_newc, get_new1, get_new2, get_new3, set_newc, set_new1, set_new2, it_str, it_tup, it_frl, gx_it, gx_isLs, gx_isTx, gx_len, gx_ixI, gx_ixS, gx_getI, gx_getS, ws_storeP, ws_aug2P, gx_stI, gx_stS, gx_app, gx_pop, gx_rev, gx_cat, gx_catT, gx_sl, gx_slT, gx_slF, gx_join, gx_joinT, gx_tup, gx_tupT, gx_tupF, gx_lst, gx_lstT, gx_lstF, gx_all, gx_notInK, Mn.atI_last, Mn.ixN_last, Mn.atI_0, gx_mulL, gx_mulT, ux_isB, ux_notB, ux_isNN, ux_notNN, ux_isSN, ux_notSN, ux_isIN, ux_notIN, ux_isTN, ux_notTN, ux_isRN, ux_notRN, gx_sort, gx_dct, Mn.atI_1, Mn.atI_2, Mn.atI_3, List.length_map, set_lastM, set_lastL, List.getLast?_concat, List.dropLast_concat, gcn_str, gcn_int, gcn_bl, gcn_non, gcs_str, gcs_int, gcs_bl, gcs_non, gcn_tup, gcs_tup, gcn_lst, gcn_lst1, gcn_lst2, refsL_strs, refsL_nil, refsL_s, refsL_i, refsL_n, refsL_b, refsL_t, refsL_app, ux_slS, ux_addS, ux_iaddS, ux_lenS, ux_ixS, ux_inT2, ux_inT3, findK_nil, findK_cons, putKD_nil, putKD_cons, gx_rvL, gx_rvF, gx_rvT, gx_rvS, gx_repl, ws_no, ux_neB, ux_eqB, txsOf_map, ws_forE, keyOf_str, keyOf_int, joinTx_nil, List.foldl_cons, List.foldl_nil, pD, pks, Pk.get, List.drop_zero, List.drop_succ_cons, List.take_succ_cons, List.take_zero]; repeat (refine And.intro (by omega) ?_))
    refine register_told_then hm hR hl hx ?_
    rw [gc_keep opt_refs (List.getElem?_eq_some_iff.mp hm).1 (regD_refs _)]
    exact q
  rw [if_neg c1] at q
  by_cases c2 : c = 83
  · subst c2
    rw [if_pos rfl] at q
    ((try dsimp only); try simp -implicitDefEqProofs only [ws_seq, ws_set, ws_par2, ws_exp, ws_ret, ws_if, ws_tg, ws_nil, ws_aug, thenR_nx, thenR_ret, thenR_bk, thenR_ct, wp_var, wp_con, wp_bin, wp_un, wp_nil, wp_cons, wp_fn, wp_test, wp_and, wp_or, wp_not, wq_andV, wq_orV, bIf_bl, ite_both, ux_mulST, wp_notV, wp_if, wq_chain, wp_call, wp_sl, wp_nopart, wp_part, wp_bm, wp_iter, wp_rng1, wp_rng2, wp_lc, wp_bind, wp_ok, wp_up, Tg.set, setsD, List.getElem?_cons_zero, List.getElem?_cons_succ, List.set_cons_zero, List.set_cons_succ, List.length_cons, List.length_nil, and_self, if_true, reduceCtorEq, Nat.reduceAdd, List.map_cons, List.map_nil, Nat.reduceSub, List.replicate_succ, List.replicate_zero, List.cons_append, List.nil_append, ux_add, ux_iadd, ux_sub, ux_mul, ux_div, ux_mod, ux_pow, ux_neg, ux_eqI, ux_neI, ux_eqS, ux_neS, ux_lt, ux_le, ux_gt, ux_ge, ux_abs, ux_max, ux_min, ux_intI, ux_intB, ux_lst, ux_tup, mulOk_iff, true_or, or_true, ux_lenT, ux_lenF, ux_t0, ux_t1, ux_t2, ux_t3, ux_t4, ux_t5, isB, decide_eq_true_eq, Bool.not_eq_true', decide_eq_false_iff_not, i62, true_and, and_true, if_false, Int.reduceLT, Int.reduceLE, Int.reduceAbs, Nat.reduceLT, Nat.reduceLeDiff, Nat.reducePow, Int.reducePow, Int.reduceToNat, Int.reduceNeg, Nat.reduceEqDiff, or_self, not_true, not_false_eq_true, Bool.not_true, Bool.not_false, decide_true, decide_false, Bool.false_eq_true, len_map1, app2, app3, List.append_assoc, List.length_append, Nat.zero_add, Nat.add_zero, get_newc, get_new1, get_new2, get_new3, set_newc, set_new1, set_new2, it_str, it_tup, it_frl, gx_it, gx_isLs, gx_isTx, gx_len, gx_ixI, gx_ixS, gx_getI, gx_getS, ws_storeP, ws_aug2P, gx_stI, gx_stS, gx_app, gx_pop, gx_rev, gx_cat, gx_catT, gx_sl, gx_slT, gx_slF, gx_join, gx_joinT, gx_tup, gx_tupT, gx_tupF, gx_lst, gx_lstT, gx_lstF, gx_all, gx_notInK, Mn.atI_last, Mn.ixN_last, Mn.atI_0, gx_mulL, gx_mulT, ux_isB, ux_notB, ux_isNN, ux_notNN, ux_isSN, ux_notSN, ux_isIN, ux_notIN, ux_isTN, ux_notTN, ux_isRN, ux_notRN, gx_sort, gx_dct, Mn.atI_1, Mn.atI_2, Mn.atI_3, List.length_map, set_lastM, set_lastL, List.getLast?_concat, List.dropLast_concat, gcn_str, gcn_int, gcn_bl, gcn_non, gcs_str, gcs_int, gcs_bl, gcs_non, gcn_tup, gcs_tup, gcn_lst, gcn_lst1, gcn_lst2, refsL_strs, refsL_nil, refsL_s, refsL_i, refsL_n, refsL_b, refsL_t, refsL_app, ux_slS, ux_addS, ux_iaddS, ux_lenS, ux_ixS, ux_inT2, ux_inT3, findK_nil, findK_cons, putKD_nil, putKD_cons, gx_rvL, gx_rvF, gx_rvT, gx_rvS, gx_repl, ws_no, ux_neB, ux_eqB, txsOf_map, ws_forE, keyOf_str, keyOf_int, joinTx_nil, List.foldl_cons, List.foldl_nil, pD, pks, Pk.get, List.drop_zero, List.drop_succ_cons, List.take_succ_cons, List.take_zero]; repeat (refine And.intro (by omega) ?_))
    rw [if_neg (by decide)]
    refine is_name_then hx ?_
    have q : P (optD (toldS inn S)) m := by
      rw [show (m.set a (.dct (dK regD R))) = m from set_same hm] at q
      exact q
    unfold toldS at q
    by_cases hn : nameT inn 1 = true
    · rw [hn]
      rw [if_pos hn] at q
      ((try dsimp only); try simp -implicitDefEqProofs only [ws_seq, ws_set, ws_par2, ws_exp, ws_ret, ws_if, ws_tg, ws_nil, ws_aug, thenR_nx, thenR_ret, thenR_bk, thenR_ct, wp_var, wp_con, wp_bin, wp_un, wp_nil, wp_cons, wp_fn, wp_test, wp_and, wp_or, wp_not, wq_andV, wq_orV, bIf_bl, ite_both, ux_mulST, wp_notV, wp_if, wq_chain, wp_call, wp_sl, wp_nopart, wp_part, wp_bm, wp_iter, wp_rng1, wp_rng2, wp_lc, wp_bind, wp_ok, wp_up, Tg.set, setsD, List.getElem?_cons_zero, List.getElem?_cons_succ, List.set_cons_zero, List.set_cons_succ, List.length_cons, List.length_nil, and_self, if_true, reduceCtorEq, Nat.reduceAdd, List.map_cons, List.map_nil, Nat.reduceSub, List.replicate_succ, List.replicate_zero, List.cons_append, List.nil_append, ux_add, ux_iadd, ux_sub, ux_mul, ux_div, ux_mod, ux_pow, ux_neg, ux_eqI, ux_neI, ux_eqS, ux_neS, ux_lt, ux_le, ux_gt, ux_ge, ux_abs, ux_max, ux_min, ux_intI, ux_intB, ux_lst, ux_tup, mulOk_iff, true_or, or_true, ux_lenT, ux_lenF, ux_t0, ux_t1, ux_t2, ux_t3, ux_t4, ux_t5, isB, decide_eq_true_eq, Bool.not_eq_true', decide_eq_false_iff_not, i62, true_and, and_true, if_false, Int.reduceLT, Int.reduceLE, Int.reduceAbs, Nat.reduceLT, Nat.reduceLeDiff, Nat.reducePow, Int.reducePow, Int.reduceToNat, Int.reduceNeg, Nat.reduceEqDiff, or_self, not_true, not_false_eq_true, Bool.not_true, Bool.not_false, decide_true, decide_false, Bool.false_eq_true, len_map1, app2, app3, List.append_assoc, List.length_append, Nat.zero_add, Nat.add_zero, get_newc, get_new1, get_new2, get_new3, set_newc, set_new1, set_new2, it_str, it_tup, it_frl, gx_it, gx_isLs, gx_isTx, gx_len, gx_ixI, gx_ixS, gx_getI, gx_getS, ws_storeP, ws_aug2P, gx_stI, gx_stS, gx_app, gx_pop, gx_rev, gx_cat, gx_catT, gx_sl, gx_slT, gx_slF, gx_join, gx_joinT, gx_tup, gx_tupT, gx_tupF, gx_lst, gx_lstT, gx_lstF, gx_all, gx_notInK, Mn.atI_last, Mn.ixN_last, Mn.atI_0, gx_mulL, gx_mulT, ux_isB, ux_notB, ux_isNN, ux_notNN, ux_isSN, ux_notSN, ux_isIN, ux_notIN, ux_isTN, ux_notTN, ux_isRN, ux_notRN, gx_sort, gx_dct, Mn.atI_1, Mn.atI_2, Mn.atI_3, List.length_map, set_lastM, set_lastL, List.getLast?_concat, List.dropLast_concat, gcn_str, gcn_int, gcn_bl, gcn_non, gcs_str, gcs_int, gcs_bl, gcs_non, gcn_tup, gcs_tup, gcn_lst, gcn_lst1, gcn_lst2, refsL_strs, refsL_nil, refsL_s, refsL_i, refsL_n, refsL_b, refsL_t, refsL_app, ux_slS, ux_addS, ux_iaddS, ux_lenS, ux_ixS, ux_inT2, ux_inT3, findK_nil, findK_cons, putKD_nil, putKD_cons, gx_rvL, gx_rvF, gx_rvT, gx_rvS, gx_repl, ws_no, ux_neB, ux_eqB, txsOf_map, ws_forE, keyOf_str, keyOf_int, joinTx_nil, List.foldl_cons, List.foldl_nil, pD, pks, Pk.get, List.drop_zero, List.drop_succ_cons, List.take_succ_cons, List.take_zero, wx_get, hb, find_dK, get_strD]; repeat (refine And.intro (by omega) ?_))
      exact q
    · rw [Bool.eq_false_iff.mpr hn]
      rw [if_neg hn] at q
      ((try dsimp only); try simp -implicitDefEqProofs only [ws_seq, ws_set, ws_par2, ws_exp, ws_ret, ws_if, ws_tg, ws_nil, ws_aug, thenR_nx, thenR_ret, thenR_bk, thenR_ct, wp_var, wp_con, wp_bin, wp_un, wp_nil, wp_cons, wp_fn, wp_test, wp_and, wp_or, wp_not, wq_andV, wq_orV, bIf_bl, ite_both, ux_mulST, wp_notV, wp_if, wq_chain, wp_call, wp_sl, wp_nopart, wp_part, wp_bm, wp_iter, wp_rng1, wp_rng2, wp_lc, wp_bind, wp_ok, wp_up, Tg.set, setsD, List.getElem?_cons_zero, List.getElem?_cons_succ, List.set_cons_zero, List.set_cons_succ, List.length_cons, List.length_nil, and_self, if_true, reduceCtorEq, Nat.reduceAdd, List.map_cons, List.map_nil, Nat.reduceSub, List.replicate_succ, List.replicate_zero, List.cons_append, List.nil_append, ux_add, ux_iadd, ux_sub, ux_mul, ux_div, ux_mod, ux_pow, ux_neg, ux_eqI, ux_neI, ux_eqS, ux_neS, ux_lt, ux_le, ux_gt, ux_ge, ux_abs, ux_max, ux_min, ux_intI, ux_intB, ux_lst, ux_tup, mulOk_iff, true_or, or_true, ux_lenT, ux_lenF, ux_t0, ux_t1, ux_t2, ux_t3, ux_t4, ux_t5, isB, decide_eq_true_eq, Bool.not_eq_true', decide_eq_false_iff_not, i62, true_and, and_true, if_false, Int.reduceLT, Int.reduceLE, Int.reduceAbs, Nat.reduceLT, Nat.reduceLeDiff, Nat.reducePow, Int.reducePow, Int.reduceToNat, Int.reduceNeg, Nat.reduceEqDiff, or_self, not_true, not_false_eq_true, Bool.not_true, Bool.not_false, decide_true, decide_false, Bool.false_eq_true, len_map1, app2, app3, List.append_assoc, List.length_append, Nat.zero_add, Nat.add_zero, get_newc, get_new1, get_new2, get_new3, set_newc, set_new1, set_new2, it_str, it_tup, it_frl, gx_it, gx_isLs, gx_isTx, gx_len, gx_ixI, gx_ixS, gx_getI, gx_getS, ws_storeP, ws_aug2P, gx_stI, gx_stS, gx_app, gx_pop, gx_rev, gx_cat, gx_catT, gx_sl, gx_slT, gx_slF, gx_join, gx_joinT, gx_tup, gx_tupT, gx_tupF, gx_lst, gx_lstT, gx_lstF, gx_all, gx_notInK, Mn.atI_last, Mn.ixN_last, Mn.atI_0, gx_mulL, gx_mulT, ux_isB, ux_notB, ux_isNN, ux_notNN, ux_isSN, ux_notSN, ux_isIN, ux_notIN, ux_isTN, ux_notTN, ux_isRN, ux_notRN, gx_sort, gx_dct, Mn.atI_1, Mn.atI_2, Mn.atI_3, List.length_map, set_lastM, set_lastL, List.getLast?_concat, List.dropLast_concat, gcn_str, gcn_int, gcn_bl, gcn_non, gcs_str, gcs_int, gcs_bl, gcs_non, gcn_tup, gcs_tup, gcn_lst, gcn_lst1, gcn_lst2, refsL_strs, refsL_nil, refsL_s, refsL_i, refsL_n, refsL_b, refsL_t, refsL_app, ux_slS, ux_addS, ux_iaddS, ux_lenS, ux_ixS, ux_inT2, ux_inT3, findK_nil, findK_cons, putKD_nil, putKD_cons, gx_rvL, gx_rvF, gx_rvT, gx_rvS, gx_repl, ws_no, ux_neB, ux_eqB, txsOf_map, ws_forE, keyOf_str, keyOf_int, joinTx_nil, List.foldl_cons, List.foldl_nil]; repeat (refine And.intro (by omega) ?_))
      exact q
  rw [if_neg c2] at q
  ((try dsimp only); try simp -implicitDefEqProofs only [ws_seq, ws_set, ws_par2, ws_exp, ws_ret, ws_if, ws_tg, ws_nil, ws_aug, thenR_nx, thenR_ret, thenR_bk, thenR_ct, wp_var, wp_con, wp_bin, wp_un, wp_nil, wp_cons, wp_fn, wp_test, wp_and, wp_or, wp_not, wq_andV, wq_orV, bIf_bl, ite_both, ux_mulST, wp_notV, wp_if, wq_chain, wp_call, wp_sl, wp_nopart, wp_part, wp_bm, wp_iter, wp_rng1, wp_rng2, wp_lc, wp_bind, wp_ok, wp_up, Tg.set, setsD, List.getElem?_cons_zero, List.getElem?_cons_succ, List.set_cons_zero, List.set_cons_succ, List.length_cons, List.length_nil, and_self, if_true, reduceCtorEq, Nat.reduceAdd, List.map_cons, List.map_nil, Nat.reduceSub, List.replicate_succ, List.replicate_zero, List.cons_append, List.nil_append, ux_add, ux_iadd, ux_sub, ux_mul, ux_div, ux_mod, ux_pow, ux_neg, ux_eqI, ux_neI, ux_eqS, ux_neS, ux_lt, ux_le, ux_gt, ux_ge, ux_abs, ux_max, ux_min, ux_intI, ux_intB, ux_lst, ux_tup, mulOk_iff, true_or, or_true, ux_lenT, ux_lenF, ux_t0, ux_t1, ux_t2, ux_t3, ux_t4, ux_t5, isB, decide_eq_true_eq, Bool.not_eq_true', decide_eq_false_iff_not, i62, true_and, and_true, if_false, Int.reduceLT, Int.reduceLE, Int.reduceAbs, Nat.reduceLT, Nat.reduceLeDiff, Nat.reducePow, Int.reducePow, Int.reduceToNat, Int.reduceNeg, Nat.reduceEqDiff, or_self, not_true, not_false_eq_true, Bool.not_true, Bool.not_false, decide_true, decide_false, Bool.false_eq_true, len_map1, app2, app3, List.append_assoc, List.length_append, Nat.zero_add, Nat.add_zero, get_newc, get_new1, get_new2, get_new3, set_newc, set_new1, set_new2, it_str, it_tup, it_frl, gx_it, gx_isLs, gx_isTx, gx_len, gx_ixI, gx_ixS, gx_getI, gx_getS, ws_storeP, ws_aug2P, gx_stI, gx_stS, gx_app, gx_pop, gx_rev, gx_cat, gx_catT, gx_sl, gx_slT, gx_slF, gx_join, gx_joinT, gx_tup, gx_tupT, gx_tupF, gx_lst, gx_lstT, gx_lstF, gx_all, gx_notInK, Mn.atI_last, Mn.ixN_last, Mn.atI_0, gx_mulL, gx_mulT, ux_isB, ux_notB, ux_isNN, ux_notNN, ux_isSN, ux_notSN, ux_isIN, ux_notIN, ux_isTN, ux_notTN, ux_isRN, ux_notRN, gx_sort, gx_dct, Mn.atI_1, Mn.atI_2, Mn.atI_3, List.length_map, set_lastM, set_lastL, List.getLast?_concat, List.dropLast_concat, gcn_str, gcn_int, gcn_bl, gcn_non, gcs_str, gcs_int, gcs_bl, gcs_non, gcn_tup, gcs_tup, gcn_lst, gcn_lst1, gcn_lst2, refsL_strs, refsL_nil, refsL_s, refsL_i, refsL_n, refsL_b, refsL_t, refsL_app, ux_slS, ux_addS, ux_iaddS, ux_lenS, ux_ixS, ux_inT2, ux_inT3, findK_nil, findK_cons, putKD_nil, putKD_cons, gx_rvL, gx_rvF, gx_rvT, gx_rvS, gx_repl, ws_no, ux_neB, ux_eqB, txsOf_map, ws_forE, keyOf_str, keyOf_int, joinTx_nil, List.foldl_cons, List.foldl_nil, pD, pks, Pk.get, List.drop_zero, List.drop_succ_cons, List.take_succ_cons, List.take_zero, c1, c2, List.cons.injEq, ux_notInS]; repeat (refine And.intro (by omega) ?_))
  have q : P (optD (toldA inn A)) m := by
    rw [show (m.set a (.dct (dK regD R))) = m from set_same hm] at q
    exact q
  by_cases hi : (inn.length : Int) = 1
  case neg =>
    rw [if_pos hi]
    have e : toldA inn A = none := by
      unfold toldA
      split
      · exact absurd rfl hi
      · rfl
    rw [e] at q
    exact q
  rw [if_neg (fun z => z hi)]
  obtain ⟨d, rfl⟩ : ∃ d, inn = [d] := List.length_eq_one_iff.mp (by omega)
  unfold toldA at q
  rw [ux_notInS]
  by_cases hd : 48 ≤ d ∧ d ≤ 57
  case neg =>
    dsimp only at q
    rw [if_neg hd] at q
    rw [decide_eq_false (fun z => hd (digs_mem.mp z))]
    ((try dsimp only); try simp -implicitDefEqProofs only [ws_seq, ws_set, ws_par2, ws_exp, ws_ret, ws_if, ws_tg, ws_nil, ws_aug, thenR_nx, thenR_ret, thenR_bk, thenR_ct, wp_var, wp_con, wp_bin, wp_un, wp_nil, wp_cons, wp_fn, wp_test, wp_and, wp_or, wp_not, wq_andV, wq_orV, bIf_bl, ite_both, ux_mulST, wp_notV, wp_if, wq_chain, wp_call, wp_sl, wp_nopart, wp_part, wp_bm, wp_iter, wp_rng1, wp_rng2, wp_lc, wp_bind, wp_ok, wp_up, Tg.set, setsD, List.getElem?_cons_zero, List.getElem?_cons_succ, List.set_cons_zero, List.set_cons_succ, List.length_cons, List.length_nil, and_self, if_true, reduceCtorEq, Nat.reduceAdd, List.map_cons, List.map_nil, Nat.reduceSub, List.replicate_succ, List.replicate_zero, List.cons_append, List.nil_append, ux_add, ux_iadd, ux_sub, ux_mul, ux_div, ux_mod, ux_pow, ux_neg, ux_eqI, ux_neI, ux_eqS, ux_neS, ux_lt, ux_le, ux_gt, ux_ge, ux_abs, ux_max, ux_min, ux_intI, ux_intB, ux_lst, ux_tup, mulOk_iff, true_or, or_true, ux_lenT, ux_lenF, ux_t0, ux_t1, ux_t2, ux_t3, ux_t4, ux_t5, isB, decide_eq_true_eq, Bool.not_eq_true', decide_eq_false_iff_not, i62, true_and, and_true, if_false, Int.reduceLT, Int.reduceLE, Int.reduceAbs, Nat.reduceLT, Nat.reduceLeDiff, Nat.reducePow, Int.reducePow, Int.reduceToNat, Int.reduceNeg, Nat.reduceEqDiff, or_self, not_true, not_false_eq_true, Bool.not_true, Bool.not_false, decide_true, decide_false, Bool.false_eq_true, len_map1, app2, app3, List.append_assoc, List.length_append, Nat.zero_add, Nat.add_zero, get_newc, get_new1, get_new2, get_new3, set_newc, set_new1, set_new2, it_str, it_tup, it_frl, gx_it, gx_isLs, gx_isTx, gx_len, gx_ixI, gx_ixS, gx_getI, gx_getS, ws_storeP, ws_aug2P, gx_stI, gx_stS, gx_app, gx_pop, gx_rev, gx_cat, gx_catT, gx_sl, gx_slT, gx_slF, gx_join, gx_joinT, gx_tup, gx_tupT, gx_tupF, gx_lst, gx_lstT, gx_lstF, gx_all, gx_notInK, Mn.atI_last, Mn.ixN_last, Mn.atI_0, gx_mulL, gx_mulT, ux_isB, ux_notB, ux_isNN, ux_notNN, ux_isSN, ux_notSN, ux_isIN, ux_notIN, ux_isTN, ux_notTN, ux_isRN, ux_notRN, gx_sort, gx_dct, Mn.atI_1, Mn.atI_2, Mn.atI_3, List.length_map, set_lastM, set_lastL, List.getLast?_concat, List.dropLast_concat, gcn_str, gcn_int, gcn_bl, gcn_non, gcs_str, gcs_int, gcs_bl, gcs_non, gcn_tup, gcs_tup, gcn_lst, gcn_lst1, gcn_lst2, refsL_strs, refsL_nil, refsL_s, refsL_i, refsL_n, refsL_b, refsL_t, refsL_app, ux_slS, ux_addS, ux_iaddS, ux_lenS, ux_ixS, ux_inT2, ux_inT3, findK_nil, findK_cons, putKD_nil, putKD_cons, gx_rvL, gx_rvF, gx_rvT, gx_rvS, gx_repl, ws_no, ux_neB, ux_eqB, txsOf_map, ws_forE, keyOf_str, keyOf_int, joinTx_nil, List.foldl_cons, List.foldl_nil]; repeat (refine And.intro (by omega) ?_))
    exact q
  dsimp only at q
  rw [if_pos hd] at q
  rw [decide_eq_true (digs_mem.mpr hd), ux_dig hd.1 hd.2]
  by_cases h0 : d = 48
  · subst h0
    rw [if_pos rfl] at q
    ((try dsimp only); try simp -implicitDefEqProofs only [ws_seq, ws_set, ws_par2, ws_exp, ws_ret, ws_if, ws_tg, ws_nil, ws_aug, thenR_nx, thenR_ret, thenR_bk, thenR_ct, wp_var, wp_con, wp_bin, wp_un, wp_nil, wp_cons, wp_fn, wp_test, wp_and, wp_or, wp_not, wq_andV, wq_orV, bIf_bl, ite_both, ux_mulST, wp_notV, wp_if, wq_chain, wp_call, wp_sl, wp_nopart, wp_part, wp_bm, wp_iter, wp_rng1, wp_rng2, wp_lc, wp_bind, wp_ok, wp_up, Tg.set, setsD, List.getElem?_cons_zero, List.getElem?_cons_succ, List.set_cons_zero, List.set_cons_succ, List.length_cons, List.length_nil, and_self, if_true, reduceCtorEq, Nat.reduceAdd, List.map_cons, List.map_nil, Nat.reduceSub, List.replicate_succ, List.replicate_zero, List.cons_append, List.nil_append, ux_add, ux_iadd, ux_sub, ux_mul, ux_div, ux_mod, ux_pow, ux_neg, ux_eqI, ux_neI, ux_eqS, ux_neS, ux_lt, ux_le, ux_gt, ux_ge, ux_abs, ux_max, ux_min, ux_intI, ux_intB, ux_lst, ux_tup, mulOk_iff, true_or, or_true, ux_lenT, ux_lenF, ux_t0, ux_t1, ux_t2, ux_t3, ux_t4, ux_t5, isB, decide_eq_true_eq, Bool.not_eq_true', decide_eq_false_iff_not, i62, true_and, and_true, if_false, Int.reduceLT, Int.reduceLE, Int.reduceAbs, Nat.reduceLT, Nat.reduceLeDiff, Nat.reducePow, Int.reducePow, Int.reduceToNat, Int.reduceNeg, Nat.reduceEqDiff, or_self, not_true, not_false_eq_true, Bool.not_true, Bool.not_false, decide_true, decide_false, Bool.false_eq_true, len_map1, app2, app3, List.append_assoc, List.length_append, Nat.zero_add, Nat.add_zero, get_newc, get_new1, get_new2, get_new3, set_newc, set_new1, set_new2, it_str, it_tup, it_frl, gx_it, gx_isLs, gx_isTx, gx_len, gx_ixI, gx_ixS, gx_getI, gx_getS, ws_storeP, ws_aug2P, gx_stI, gx_stS, gx_app, gx_pop, gx_rev, gx_cat, gx_catT, gx_sl, gx_slT, gx_slF, gx_join, gx_joinT, gx_tup, gx_tupT, gx_tupF, gx_lst, gx_lstT, gx_lstF, gx_all, gx_notInK, Mn.atI_last, Mn.ixN_last, Mn.atI_0, gx_mulL, gx_mulT, ux_isB, ux_notB, ux_isNN, ux_notNN, ux_isSN, ux_notSN, ux_isIN, ux_notIN, ux_isTN, ux_notTN, ux_isRN, ux_notRN, gx_sort, gx_dct, Mn.atI_1, Mn.atI_2, Mn.atI_3, List.length_map, set_lastM, set_lastL, List.getLast?_concat, List.dropLast_concat, gcn_str, gcn_int, gcn_bl, gcn_non, gcs_str, gcs_int, gcs_bl, gcs_non, gcn_tup, gcs_tup, gcn_lst, gcn_lst1, gcn_lst2, refsL_strs, refsL_nil, refsL_s, refsL_i, refsL_n, refsL_b, refsL_t, refsL_app, ux_slS, ux_addS, ux_iaddS, ux_lenS, ux_ixS, ux_inT2, ux_inT3, findK_nil, findK_cons, putKD_nil, putKD_cons, gx_rvL, gx_rvF, gx_rvT, gx_rvS, gx_repl, ws_no, ux_neB, ux_eqB, txsOf_map, ws_forE, keyOf_str, keyOf_int, joinTx_nil, List.foldl_cons, List.foldl_nil]; repeat (refine And.intro (by omega) ?_))
    rw [if_pos (show ((48 : Nat) : Int) - 48 = 0 by decide), ux_strI (by omega) (by omega)]
    ((try dsimp only); try simp -implicitDefEqProofs only [ws_seq, ws_set, ws_par2, ws_exp, ws_ret, ws_if, ws_tg, ws_nil, ws_aug, thenR_nx, thenR_ret, thenR_bk, thenR_ct, wp_var, wp_con, wp_bin, wp_un, wp_nil, wp_cons, wp_fn, wp_test, wp_and, wp_or, wp_not, wq_andV, wq_orV, bIf_bl, ite_both, ux_mulST, wp_notV, wp_if, wq_chain, wp_call, wp_sl, wp_nopart, wp_part, wp_bm, wp_iter, wp_rng1, wp_rng2, wp_lc, wp_bind, wp_ok, wp_up, Tg.set, setsD, List.getElem?_cons_zero, List.getElem?_cons_succ, List.set_cons_zero, List.set_cons_succ, List.length_cons, List.length_nil, and_self, if_true, reduceCtorEq, Nat.reduceAdd, List.map_cons, List.map_nil, Nat.reduceSub, List.replicate_succ, List.replicate_zero, List.cons_append, List.nil_append, ux_add, ux_iadd, ux_sub, ux_mul, ux_div, ux_mod, ux_pow, ux_neg, ux_eqI, ux_neI, ux_eqS, ux_neS, ux_lt, ux_le, ux_gt, ux_ge, ux_abs, ux_max, ux_min, ux_intI, ux_intB, ux_lst, ux_tup, mulOk_iff, true_or, or_true, ux_lenT, ux_lenF, ux_t0, ux_t1, ux_t2, ux_t3, ux_t4, ux_t5, isB, decide_eq_true_eq, Bool.not_eq_true', decide_eq_false_iff_not, i62, true_and, and_true, if_false, Int.reduceLT, Int.reduceLE, Int.reduceAbs, Nat.reduceLT, Nat.reduceLeDiff, Nat.reducePow, Int.reducePow, Int.reduceToNat, Int.reduceNeg, Nat.reduceEqDiff, or_self, not_true, not_false_eq_true, Bool.not_true, Bool.not_false, decide_true, decide_false, Bool.false_eq_true, len_map1, app2, app3, List.append_assoc, List.length_append, Nat.zero_add, Nat.add_zero, get_newc, get_new1, get_new2, get_new3, set_newc, set_new1, set_new2, it_str, it_tup, it_frl, gx_it, gx_isLs, gx_isTx, gx_len, gx_ixI, gx_ixS, gx_getI, gx_getS, ws_storeP, ws_aug2P, gx_stI, gx_stS, gx_app, gx_pop, gx_rev, gx_cat, gx_catT, gx_sl, gx_slT, gx_slF, gx_join, gx_joinT, gx_tup, gx_tupT, gx_tupF, gx_lst, gx_lstT, gx_lstF, gx_all, gx_notInK, Mn.atI_last, Mn.ixN_last, Mn.atI_0, gx_mulL, gx_mulT, ux_isB, ux_notB, ux_isNN, ux_notNN, ux_isSN, ux_notSN, ux_isIN, ux_notIN, ux_isTN, ux_notTN, ux_isRN, ux_notRN, gx_sort, gx_dct, Mn.atI_1, Mn.atI_2, Mn.atI_3, List.length_map, set_lastM, set_lastL, List.getLast?_concat, List.dropLast_concat, gcn_str, gcn_int, gcn_bl, gcn_non, gcs_str, gcs_int, gcs_bl, gcs_non, gcn_tup, gcs_tup, gcn_lst, gcn_lst1, gcn_lst2, refsL_strs, refsL_nil, refsL_s, refsL_i, refsL_n, refsL_b, refsL_t, refsL_app, ux_slS, ux_addS, ux_iaddS, ux_lenS, ux_ixS, ux_inT2, ux_inT3, findK_nil, findK_cons, putKD_nil, putKD_cons, gx_rvL, gx_rvF, gx_rvT, gx_rvS, gx_repl, ws_no, ux_neB, ux_eqB, txsOf_map, ws_forE, keyOf_str, keyOf_int, joinTx_nil, List.foldl_cons, List.foldl_nil]; repeat (refine And.intro (by omega) ?_))
    exact q
  · rw [if_neg h0] at q
    have h1 : ¬ ((d : Int) - 48 = 0) := by omega
    ((try dsimp only); try simp -implicitDefEqProofs only [ws_seq, ws_set, ws_par2, ws_exp, ws_ret, ws_if, ws_tg, ws_nil, ws_aug, thenR_nx, thenR_ret, thenR_bk, thenR_ct, wp_var, wp_con, wp_bin, wp_un, wp_nil, wp_cons, wp_fn, wp_test, wp_and, wp_or, wp_not, wq_andV, wq_orV, bIf_bl, ite_both, ux_mulST, wp_notV, wp_if, wq_chain, wp_call, wp_sl, wp_nopart, wp_part, wp_bm, wp_iter, wp_rng1, wp_rng2, wp_lc, wp_bind, wp_ok, wp_up, Tg.set, setsD, List.getElem?_cons_zero, List.getElem?_cons_succ, List.set_cons_zero, List.set_cons_succ, List.length_cons, List.length_nil, and_self, if_true, reduceCtorEq, Nat.reduceAdd, List.map_cons, List.map_nil, Nat.reduceSub, List.replicate_succ, List.replicate_zero, List.cons_append, List.nil_append, ux_add, ux_iadd, ux_sub, ux_mul, ux_div, ux_mod, ux_pow, ux_neg, ux_eqI, ux_neI, ux_eqS, ux_neS, ux_lt, ux_le, ux_gt, ux_ge, ux_abs, ux_max, ux_min, ux_intI, ux_intB, ux_lst, ux_tup, mulOk_iff, true_or, or_true, ux_lenT, ux_lenF, ux_t0, ux_t1, ux_t2, ux_t3, ux_t4, ux_t5, isB, decide_eq_true_eq, Bool.not_eq_true', decide_eq_false_iff_not, i62, true_and, and_true, if_false, Int.reduceLT, Int.reduceLE, Int.reduceAbs, Nat.reduceLT, Nat.reduceLeDiff, Nat.reducePow, Int.reducePow, Int.reduceToNat, Int.reduceNeg, Nat.reduceEqDiff, or_self, not_true, not_false_eq_true, Bool.not_true, Bool.not_false, decide_true, decide_false, Bool.false_eq_true, len_map1, app2, app3, List.append_assoc, List.length_append, Nat.zero_add, Nat.add_zero, get_newc, get_new1, get_new2, get_new3, set_newc, set_new1, set_new2, it_str, it_tup, it_frl, gx_it, gx_isLs, gx_isTx, gx_len, gx_ixI, gx_ixS, gx_getI, gx_getS, ws_storeP, ws_aug2P, gx_stI, gx_stS, gx_app, gx_pop, gx_rev, gx_cat, gx_catT, gx_sl, gx_slT, gx_slF, gx_join, gx_joinT, gx_tup, gx_tupT, gx_tupF, gx_lst, gx_lstT, gx_lstF, gx_all, gx_notInK, Mn.atI_last, Mn.ixN_last, Mn.atI_0, gx_mulL, gx_mulT, ux_isB, ux_notB, ux_isNN, ux_notNN, ux_isSN, ux_notSN, ux_isIN, ux_notIN, ux_isTN, ux_notTN, ux_isRN, ux_notRN, gx_sort, gx_dct, Mn.atI_1, Mn.atI_2, Mn.atI_3, List.length_map, set_lastM, set_lastL, List.getLast?_concat, List.dropLast_concat, gcn_str, gcn_int, gcn_bl, gcn_non, gcs_str, gcs_int, gcs_bl, gcs_non, gcn_tup, gcs_tup, gcn_lst, gcn_lst1, gcn_lst2, refsL_strs, refsL_nil, refsL_s, refsL_i, refsL_n, refsL_b, refsL_t, refsL_app, ux_slS, ux_addS, ux_iaddS, ux_lenS, ux_ixS, ux_inT2, ux_inT3, findK_nil, findK_cons, putKD_nil, putKD_cons, gx_rvL, gx_rvF, gx_rvT, gx_rvS, gx_repl, ws_no, ux_neB, ux_eqB, txsOf_map, ws_forE, keyOf_str, keyOf_int, joinTx_nil, List.foldl_cons, List.foldl_nil, h1]; repeat (refine And.intro (by omega) ?_))
    by_cases h2 : (d : Int) - 48 ≤ (A.length : Nat)
    · rw [if_pos h2]
      have e : (d : Int) - 48 - 1 = ((d - 49 : Nat) : Int) := by omega
      rw [e, ux_tupN (by omega)]
      ((try dsimp only); try simp -implicitDefEqProofs only [ws_seq, ws_set, ws_par2, ws_exp, ws_ret, ws_if, ws_tg, ws_nil, ws_aug, thenR_nx, thenR_ret, thenR_bk, thenR_ct, wp_var, wp_con, wp_bin, wp_un, wp_nil, wp_cons, wp_fn, wp_test, wp_and, wp_or, wp_not, wq_andV, wq_orV, bIf_bl, ite_both, ux_mulST, wp_notV, wp_if, wq_chain, wp_call, wp_sl, wp_nopart, wp_part, wp_bm, wp_iter, wp_rng1, wp_rng2, wp_lc, wp_bind, wp_ok, wp_up, Tg.set, setsD, List.getElem?_cons_zero, List.getElem?_cons_succ, List.set_cons_zero, List.set_cons_succ, List.length_cons, List.length_nil, and_self, if_true, reduceCtorEq, Nat.reduceAdd, List.map_cons, List.map_nil, Nat.reduceSub, List.replicate_succ, List.replicate_zero, List.cons_append, List.nil_append, ux_add, ux_iadd, ux_sub, ux_mul, ux_div, ux_mod, ux_pow, ux_neg, ux_eqI, ux_neI, ux_eqS, ux_neS, ux_lt, ux_le, ux_gt, ux_ge, ux_abs, ux_max, ux_min, ux_intI, ux_intB, ux_lst, ux_tup, mulOk_iff, true_or, or_true, ux_lenT, ux_lenF, ux_t0, ux_t1, ux_t2, ux_t3, ux_t4, ux_t5, isB, decide_eq_true_eq, Bool.not_eq_true', decide_eq_false_iff_not, i62, true_and, and_true, if_false, Int.reduceLT, Int.reduceLE, Int.reduceAbs, Nat.reduceLT, Nat.reduceLeDiff, Nat.reducePow, Int.reducePow, Int.reduceToNat, Int.reduceNeg, Nat.reduceEqDiff, or_self, not_true, not_false_eq_true, Bool.not_true, Bool.not_false, decide_true, decide_false, Bool.false_eq_true, len_map1, app2, app3, List.append_assoc, List.length_append, Nat.zero_add, Nat.add_zero, get_newc, get_new1, get_new2, get_new3, set_newc, set_new1, set_new2, it_str, it_tup, it_frl, gx_it, gx_isLs, gx_isTx, gx_len, gx_ixI, gx_ixS, gx_getI, gx_getS, ws_storeP, ws_aug2P, gx_stI, gx_stS, gx_app, gx_pop, gx_rev, gx_cat, gx_catT, gx_sl, gx_slT, gx_slF, gx_join, gx_joinT, gx_tup, gx_tupT, gx_tupF, gx_lst, gx_lstT, gx_lstF, gx_all, gx_notInK, Mn.atI_last, Mn.ixN_last, Mn.atI_0, gx_mulL, gx_mulT, ux_isB, ux_notB, ux_isNN, ux_notNN, ux_isSN, ux_notSN, ux_isIN, ux_notIN, ux_isTN, ux_notTN, ux_isRN, ux_notRN, gx_sort, gx_dct, Mn.atI_1, Mn.atI_2, Mn.atI_3, List.length_map, set_lastM, set_lastL, List.getLast?_concat, List.dropLast_concat, gcn_str, gcn_int, gcn_bl, gcn_non, gcs_str, gcs_int, gcs_bl, gcs_non, gcn_tup, gcs_tup, gcn_lst, gcn_lst1, gcn_lst2, refsL_strs, refsL_nil, refsL_s, refsL_i, refsL_n, refsL_b, refsL_t, refsL_app, ux_slS, ux_addS, ux_iaddS, ux_lenS, ux_ixS, ux_inT2, ux_inT3, findK_nil, findK_cons, putKD_nil, putKD_cons, gx_rvL, gx_rvF, gx_rvT, gx_rvS, gx_repl, ws_no, ux_neB, ux_eqB, txsOf_map, ws_forE, keyOf_str, keyOf_int, joinTx_nil, List.foldl_cons, List.foldl_nil]; repeat (refine And.intro (by omega) ?_))
      exact q
    · rw [if_neg h2]
      have e : A.getD (d - 49) [] = [] := by
        rw [List.getD_eq_getElem?_getD, List.getElem?_eq_none (by omega)]
        rfl
      rw [e] at q
      exact q
structure PutOk (S : Strs) (A : List Mn.Tx) : Prop where
  s : ∀ p ∈ S, p.2.length ≤ 200
  a : ∀ w ∈ A, w.length ≤ 200
  l : A.length ≤ 200
theorem strInt_small {n : Nat} (h : n ≤ 1000) : (strInt (n : Nat)).length ≤ 20 := by
  have := (shownT_ok (v := (n : Int)) (f := [49]) ⟨by omega, by omega⟩).1
  unfold shownT at this
  rw [if_neg (by simp), if_neg (by simp), if_neg (by simp)] at this
  exact this
theorem told_len {S : Strs} {A : List Mn.Tx} (K : PutOk S A) {c : Nat} {inn t : Mn.Tx} {R : Regs} (hR : RegsOk R) (h : (told S A c inn R).1 = some t) : t.length ≤ 200 := by
  unfold told at h
  split at h
  · unfold toldR at h
    split at h
    · cases h
      rename_i hn
      have h' : RegsOk (regsBy inn R) := by
        unfold regsBy
        split
        · exact hR.put _ (hR.of _).step
        · exact hR
      have := h'.of (nameOf inn)
      have := (shownT_ok (v := (regOf (regsBy inn R) (nameOf inn)).1) (f := (regOf (regsBy inn R) (nameOf inn)).2.2) ⟨by have := this.v; omega, by have := this.v; omega⟩).1
      unfold shownR
      omega
    · cases h
  split at h
  · have h : toldS inn S = some t := h
    unfold toldS at h
    split at h
    · cases h
      cases e : getL S inn with
      | none => simp
      | some w => exact K.s _ (get_mem e)
    · cases h
  · have h : toldA inn A = some t := h
    unfold toldA at h
    split at h
    · split at h
      · split at h
        · cases h
          have := strInt_small (n := A.length) (by have := K.l; omega)
          omega
        · cases h
          rw [List.getD_eq_getElem?_getD]
          rename_i d _ _
          cases e : A[d - 49]? with
          | none => simp
          | some w => exact K.a w (List.mem_of_getElem? e)
      · cases h
    · cases h
theorem skip_le {y : Mn.Tx} (h : y ≠ []) : skipN y ≤ y.length := by
  unfold skipN
  split
  · rename_i e
    have := congrArg List.length e
    rw [List.length_take] at this
    simp at this
    omega
  · exact List.length_pos_iff.mpr h
theorem gc_tup2 {m : MH} {o : MO} {d : D} (ho : o.refs = []) (hd : d.refs = []) : gc m (.tup [d, .ref m.length]) (m ++ [o]) = (.tup [d, .ref m.length], m ++ [o]) := by
  have hr : (D.tup [d, .ref m.length]).refs = [m.length] := by
    show d.refs ++ ([m.length] ++ []) = _
    rw [hd]
    rfl
  have hg : (m ++ [o])[m.length]? = some o := get_new
  have er : reach m.length (.tup [d, .ref m.length]) (m ++ [o]) = [m.length] := by
    have h1 := reach_one (n := m.length) (a := m.length) (m := m ++ [o]) (Nat.le_refl _) hg (fun i hi => by rw [ho] at hi; exact nomatch hi)
    unfold reach at h1 ⊢
    rw [hr]
    exact h1
  unfold gc
  rw [er]
  have G : GcOk m (.tup [d, .ref m.length]) (m ++ [o]) [m.length] := by
    refine ⟨by simp, fun i hi => .inl (List.getElem?_append_left hi), List.pairwise_singleton _ _, fun j hj => ?_, fun i hi => .inr (by rw [hr] at hi; exact hi), fun j hj o2 e i hi => ?_⟩
    · rw [List.mem_singleton.mp hj]
      simp
    · rw [List.mem_singleton.mp hj, hg] at e
      cases e
      rw [ho] at hi
      exact nomatch hi
  rw [if_pos G]
  have p1 : place m.length [m.length] m.length = m.length := by
    unfold place
    rw [if_neg (by omega)]
    simp
  have e1 : (D.tup [d, .ref m.length]).ren (place m.length [m.length]) = .tup [d, .ref m.length] := by
    refine D.ren_id _ fun i hi => ?_
    rw [hr] at hi
    rw [List.mem_singleton.mp hi]
    exact p1
  have e2 : ((m ++ [o]).getD m.length (.lst [])).ren (place m.length [m.length]) = o := by
    rw [List.getD_eq_getElem?_getD, hg]
    exact MO.ren_id o fun i hi => by rw [ho] at hi; exact nomatch hi
  rw [e1, List.map_cons, List.map_nil, e2]
  simp
theorem put_skip {M : MH} {x acc : Mn.Tx} {n : Nat} {v1 v2 v3 v4 v7 v9 : Option D} {Q : Fl → Mn.Fr → MH → Prop} (hx : x.length ≤ 200) (hn : n < x.length) (al : acc.length ≤ 200 * n)
    (q : ∀ v9, Q .nx [some (.str x), v1, v2, v3, v4, some (.str (acc ++ (x.drop n).take (skipN (x.drop n)))), some (.int ((n + skipN (x.drop n) : Nat) : Int)), v7, some .non, v9] M) :
    ws (r5_put_in [some (.str x), v1, v2, v3, v4, some (.str acc), some (.int (n : Nat)), v7, some .non, v9] M) Q := by
  have e1 := cutN (x := x) (i := (n : Int)) (j := (n : Int) + 2) n (n + 2) rfl (by omega)
  rw [show n + 2 - n = 2 by omega] at e1
  have e3 := cutN (x := x) (i := (n : Int)) (j := (n : Int) + 1) n (n + 1) rfl (by omega)
  rw [show n + 1 - n = 1 by omega] at e3
  have t1 : ((x.drop n).take 1).length ≤ 2 := by rw [List.length_take]; omega
  have t2 : ((x.drop n).take 2).length ≤ 2 := by rw [List.length_take]; omega
  unfold r5_put_in
  ((try dsimp only); try simp -implicitDefEqProofs only [ws_seq, ws_set, ws_par2, ws_exp, ws_ret, ws_if, ws_tg, ws_nil, ws_aug, thenR_nx, thenR_ret, thenR_bk, thenR_ct, wp_var, wp_con, wp_bin, wp_un, wp_nil, wp_cons, wp_fn, wp_test, wp_and, wp_or, wp_not, wq_andV, wq_orV, bIf_bl, ite_both, ux_mulST, wp_notV, wp_if, wq_chain, wp_call, wp_sl, wp_nopart, wp_part, wp_bm, wp_iter, wp_rng1, wp_rng2, wp_lc, wp_bind, wp_ok, wp_up, Tg.set, setsD, List.getElem?_cons_zero, List.getElem?_cons_succ, List.set_cons_zero, List.set_cons_succ, List.length_cons, List.length_nil, and_self, if_true, reduceCtorEq, Nat.reduceAdd, List.map_cons, List.map_nil, Nat.reduceSub, List.replicate_succ, List.replicate_zero, List.cons_append, List.nil_append, ux_add, ux_iadd, ux_sub, ux_mul, ux_div, ux_mod, ux_pow, ux_neg, ux_eqI, ux_neI, ux_eqS, ux_neS, ux_lt, ux_le, ux_gt, ux_ge, ux_abs, ux_max, ux_min, ux_intI, ux_intB, ux_lst, ux_tup, mulOk_iff, true_or, or_true, ux_lenT, ux_lenF, ux_t0, ux_t1, ux_t2, ux_t3, ux_t4, ux_t5, isB, decide_eq_true_eq, Bool.not_eq_true', decide_eq_false_iff_not, i62, true_and, and_true, if_false, Int.reduceLT, Int.reduceLE, Int.reduceAbs, Nat.reduceLT, Nat.reduceLeDiff, Nat.reducePow, Int.reducePow, Int.reduceToNat, Int.reduceNeg, Nat.reduceEqDiff, or_self, not_true, not_false_eq_true, Bool.not_true, Bool.not_false, decide_true, decide_false, Bool.false_eq_true, len_map1, app2, app3, List.append_assoc, List.length_append, Nat.zero_add, Nat.add_zero, get_newc, get_new1, get_new2, get_new3, set_newc, set_new1, set_new2, it_str, it_tup, it_frl, gx_it, gx_isLs, gx_isTx, gx_len, gx_ixI, gx_ixS, gx_getI, gx_getS, ws_storeP, ws_aug2P, gx_stI, gx_stS, gx_app, gx_pop, gx_rev, gx_cat, gx_catT, gx_sl, gx_slT, gx_slF, gx_join, gx_joinT, gx_tup, gx_tupT, gx_tupF, gx_lst, gx_lstT, gx_lstF, gx_all, gx_notInK, Mn.atI_last, Mn.ixN_last, Mn.atI_0, gx_mulL, gx_mulT, ux_isB, ux_notB, ux_isNN, ux_notNN, ux_isSN, ux_notSN, ux_isIN, ux_notIN, ux_isTN, ux_notTN, ux_isRN, ux_notRN, gx_sort, gx_dct, Mn.atI_1, Mn.atI_2, Mn.atI_3, List.length_map, set_lastM, set_lastL, List.getLast?_concat, List.dropLast_concat, gcn_str, gcn_int, gcn_bl, gcn_non, gcs_str, gcs_int, gcs_bl, gcs_non, gcn_tup, gcs_tup, gcn_lst, gcn_lst1, gcn_lst2, refsL_strs, refsL_nil, refsL_s, refsL_i, refsL_n, refsL_b, refsL_t, refsL_app, ux_slS, ux_addS, ux_iaddS, ux_lenS, ux_ixS, ux_inT2, ux_inT3, findK_nil, findK_cons, putKD_nil, putKD_cons, gx_rvL, gx_rvF, gx_rvT, gx_rvS, gx_repl, ws_no, ux_neB, ux_eqB, txsOf_map, ws_forE, keyOf_str, keyOf_int, joinTx_nil, List.foldl_cons, List.foldl_nil, e1]; repeat (refine And.intro (by omega) ?_))
  by_cases h : (x.drop n).take 2 = [92, 92]
  · have e2 : skipN (x.drop n) = 2 := by unfold skipN; rw [if_pos h]
    rw [e2] at q
    rw [if_pos h]
    unfold r3_put_in
    ((try dsimp only); try simp -implicitDefEqProofs only [ws_seq, ws_set, ws_par2, ws_exp, ws_ret, ws_if, ws_tg, ws_nil, ws_aug, thenR_nx, thenR_ret, thenR_bk, thenR_ct, wp_var, wp_con, wp_bin, wp_un, wp_nil, wp_cons, wp_fn, wp_test, wp_and, wp_or, wp_not, wq_andV, wq_orV, bIf_bl, ite_both, ux_mulST, wp_notV, wp_if, wq_chain, wp_call, wp_sl, wp_nopart, wp_part, wp_bm, wp_iter, wp_rng1, wp_rng2, wp_lc, wp_bind, wp_ok, wp_up, Tg.set, setsD, List.getElem?_cons_zero, List.getElem?_cons_succ, List.set_cons_zero, List.set_cons_succ, List.length_cons, List.length_nil, and_self, if_true, reduceCtorEq, Nat.reduceAdd, List.map_cons, List.map_nil, Nat.reduceSub, List.replicate_succ, List.replicate_zero, List.cons_append, List.nil_append, ux_add, ux_iadd, ux_sub, ux_mul, ux_div, ux_mod, ux_pow, ux_neg, ux_eqI, ux_neI, ux_eqS, ux_neS, ux_lt, ux_le, ux_gt, ux_ge, ux_abs, ux_max, ux_min, ux_intI, ux_intB, ux_lst, ux_tup, mulOk_iff, true_or, or_true, ux_lenT, ux_lenF, ux_t0, ux_t1, ux_t2, ux_t3, ux_t4, ux_t5, isB, decide_eq_true_eq, Bool.not_eq_true', decide_eq_false_iff_not, i62, true_and, and_true, if_false, Int.reduceLT, Int.reduceLE, Int.reduceAbs, Nat.reduceLT, Nat.reduceLeDiff, Nat.reducePow, Int.reducePow, Int.reduceToNat, Int.reduceNeg, Nat.reduceEqDiff, or_self, not_true, not_false_eq_true, Bool.not_true, Bool.not_false, decide_true, decide_false, Bool.false_eq_true, len_map1, app2, app3, List.append_assoc, List.length_append, Nat.zero_add, Nat.add_zero, get_newc, get_new1, get_new2, get_new3, set_newc, set_new1, set_new2, it_str, it_tup, it_frl, gx_it, gx_isLs, gx_isTx, gx_len, gx_ixI, gx_ixS, gx_getI, gx_getS, ws_storeP, ws_aug2P, gx_stI, gx_stS, gx_app, gx_pop, gx_rev, gx_cat, gx_catT, gx_sl, gx_slT, gx_slF, gx_join, gx_joinT, gx_tup, gx_tupT, gx_tupF, gx_lst, gx_lstT, gx_lstF, gx_all, gx_notInK, Mn.atI_last, Mn.ixN_last, Mn.atI_0, gx_mulL, gx_mulT, ux_isB, ux_notB, ux_isNN, ux_notNN, ux_isSN, ux_notSN, ux_isIN, ux_notIN, ux_isTN, ux_notTN, ux_isRN, ux_notRN, gx_sort, gx_dct, Mn.atI_1, Mn.atI_2, Mn.atI_3, List.length_map, set_lastM, set_lastL, List.getLast?_concat, List.dropLast_concat, gcn_str, gcn_int, gcn_bl, gcn_non, gcs_str, gcs_int, gcs_bl, gcs_non, gcn_tup, gcs_tup, gcn_lst, gcn_lst1, gcn_lst2, refsL_strs, refsL_nil, refsL_s, refsL_i, refsL_n, refsL_b, refsL_t, refsL_app, ux_slS, ux_addS, ux_iaddS, ux_lenS, ux_ixS, ux_inT2, ux_inT3, findK_nil, findK_cons, putKD_nil, putKD_cons, gx_rvL, gx_rvF, gx_rvT, gx_rvS, gx_repl, ws_no, ux_neB, ux_eqB, txsOf_map, ws_forE, keyOf_str, keyOf_int, joinTx_nil, List.foldl_cons, List.foldl_nil, e1]; repeat (refine And.intro (by omega) ?_))
    exact q _
  · have e2 : skipN (x.drop n) = 1 := by unfold skipN; rw [if_neg h]
    rw [e2] at q
    rw [if_neg h]
    unfold r3_put_in
    ((try dsimp only); try simp -implicitDefEqProofs only [ws_seq, ws_set, ws_par2, ws_exp, ws_ret, ws_if, ws_tg, ws_nil, ws_aug, thenR_nx, thenR_ret, thenR_bk, thenR_ct, wp_var, wp_con, wp_bin, wp_un, wp_nil, wp_cons, wp_fn, wp_test, wp_and, wp_or, wp_not, wq_andV, wq_orV, bIf_bl, ite_both, ux_mulST, wp_notV, wp_if, wq_chain, wp_call, wp_sl, wp_nopart, wp_part, wp_bm, wp_iter, wp_rng1, wp_rng2, wp_lc, wp_bind, wp_ok, wp_up, Tg.set, setsD, List.getElem?_cons_zero, List.getElem?_cons_succ, List.set_cons_zero, List.set_cons_succ, List.length_cons, List.length_nil, and_self, if_true, reduceCtorEq, Nat.reduceAdd, List.map_cons, List.map_nil, Nat.reduceSub, List.replicate_succ, List.replicate_zero, List.cons_append, List.nil_append, ux_add, ux_iadd, ux_sub, ux_mul, ux_div, ux_mod, ux_pow, ux_neg, ux_eqI, ux_neI, ux_eqS, ux_neS, ux_lt, ux_le, ux_gt, ux_ge, ux_abs, ux_max, ux_min, ux_intI, ux_intB, ux_lst, ux_tup, mulOk_iff, true_or, or_true, ux_lenT, ux_lenF, ux_t0, ux_t1, ux_t2, ux_t3, ux_t4, ux_t5, isB, decide_eq_true_eq, Bool.not_eq_true', decide_eq_false_iff_not, i62, true_and, and_true, if_false, Int.reduceLT, Int.reduceLE, Int.reduceAbs, Nat.reduceLT, Nat.reduceLeDiff, Nat.reducePow, Int.reducePow, Int.reduceToNat, Int.reduceNeg, Nat.reduceEqDiff, or_self, not_true, not_false_eq_true, Bool.not_true, Bool.not_false, decide_true, decide_false, Bool.false_eq_true, len_map1, app2, app3, List.append_assoc, List.length_append, Nat.zero_add, Nat.add_zero, get_newc, get_new1, get_new2, get_new3, set_newc, set_new1, set_new2, it_str, it_tup, it_frl, gx_it, gx_isLs, gx_isTx, gx_len, gx_ixI, gx_ixS, gx_getI, gx_getS, ws_storeP, ws_aug2P, gx_stI, gx_stS, gx_app, gx_pop, gx_rev, gx_cat, gx_catT, gx_sl, gx_slT, gx_slF, gx_join, gx_joinT, gx_tup, gx_tupT, gx_tupF, gx_lst, gx_lstT, gx_lstF, gx_all, gx_notInK, Mn.atI_last, Mn.ixN_last, Mn.atI_0, gx_mulL, gx_mulT, ux_isB, ux_notB, ux_isNN, ux_notNN, ux_isSN, ux_notSN, ux_isIN, ux_notIN, ux_isTN, ux_notTN, ux_isRN, ux_notRN, gx_sort, gx_dct, Mn.atI_1, Mn.atI_2, Mn.atI_3, List.length_map, set_lastM, set_lastL, List.getLast?_concat, List.dropLast_concat, gcn_str, gcn_int, gcn_bl, gcn_non, gcs_str, gcs_int, gcs_bl, gcs_non, gcn_tup, gcs_tup, gcn_lst, gcn_lst1, gcn_lst2, refsL_strs, refsL_nil, refsL_s, refsL_i, refsL_n, refsL_b, refsL_t, refsL_app, ux_slS, ux_addS, ux_iaddS, ux_lenS, ux_ixS, ux_inT2, ux_inT3, findK_nil, findK_cons, putKD_nil, putKD_cons, gx_rvL, gx_rvF, gx_rvT, gx_rvS, gx_repl, ws_no, ux_neB, ux_eqB, txsOf_map, ws_forE, keyOf_str, keyOf_int, joinTx_nil, List.foldl_cons, List.foldl_nil, e3]; repeat (refine And.intro (by omega) ?_))
    exact q _
theorem put_text {M : MH} {x acc t inn : Mn.Tx} {n c : Nat} {v1 v2 v3 v4 v9 : Option D} {Q : Fl → Mn.Fr → MH → Prop} (hn : n ≤ 200) (al : acc.length ≤ 200 * n) (ht : t.length ≤ 200)
    (q : Q .nx [some (.str x), v1, v2, v3, v4, some (.str (acc ++ t)), some (.int ((n + inn.length + 4 : Nat) : Int)), some (askD n (some (c, inn))), some (.str t), v9] M) :
    ws (r5_put_in [some (.str x), v1, v2, v3, v4, some (.str acc), some (.int (n : Nat)), some (askD n (some (c, inn))), some (.str t), v9] M) Q := by
  unfold r5_put_in
  ((try dsimp only); try simp -implicitDefEqProofs only [ws_seq, ws_set, ws_par2, ws_exp, ws_ret, ws_if, ws_tg, ws_nil, ws_aug, thenR_nx, thenR_ret, thenR_bk, thenR_ct, wp_var, wp_con, wp_bin, wp_un, wp_nil, wp_cons, wp_fn, wp_test, wp_and, wp_or, wp_not, wq_andV, wq_orV, bIf_bl, ite_both, ux_mulST, wp_notV, wp_if, wq_chain, wp_call, wp_sl, wp_nopart, wp_part, wp_bm, wp_iter, wp_rng1, wp_rng2, wp_lc, wp_bind, wp_ok, wp_up, Tg.set, setsD, List.getElem?_cons_zero, List.getElem?_cons_succ, List.set_cons_zero, List.set_cons_succ, List.length_cons, List.length_nil, and_self, if_true, reduceCtorEq, Nat.reduceAdd, List.map_cons, List.map_nil, Nat.reduceSub, List.replicate_succ, List.replicate_zero, List.cons_append, List.nil_append, ux_add, ux_iadd, ux_sub, ux_mul, ux_div, ux_mod, ux_pow, ux_neg, ux_eqI, ux_neI, ux_eqS, ux_neS, ux_lt, ux_le, ux_gt, ux_ge, ux_abs, ux_max, ux_min, ux_intI, ux_intB, ux_lst, ux_tup, mulOk_iff, true_or, or_true, ux_lenT, ux_lenF, ux_t0, ux_t1, ux_t2, ux_t3, ux_t4, ux_t5, isB, decide_eq_true_eq, Bool.not_eq_true', decide_eq_false_iff_not, i62, true_and, and_true, if_false, Int.reduceLT, Int.reduceLE, Int.reduceAbs, Nat.reduceLT, Nat.reduceLeDiff, Nat.reducePow, Int.reducePow, Int.reduceToNat, Int.reduceNeg, Nat.reduceEqDiff, or_self, not_true, not_false_eq_true, Bool.not_true, Bool.not_false, decide_true, decide_false, Bool.false_eq_true, len_map1, app2, app3, List.append_assoc, List.length_append, Nat.zero_add, Nat.add_zero, get_newc, get_new1, get_new2, get_new3, set_newc, set_new1, set_new2, it_str, it_tup, it_frl, gx_it, gx_isLs, gx_isTx, gx_len, gx_ixI, gx_ixS, gx_getI, gx_getS, ws_storeP, ws_aug2P, gx_stI, gx_stS, gx_app, gx_pop, gx_rev, gx_cat, gx_catT, gx_sl, gx_slT, gx_slF, gx_join, gx_joinT, gx_tup, gx_tupT, gx_tupF, gx_lst, gx_lstT, gx_lstF, gx_all, gx_notInK, Mn.atI_last, Mn.ixN_last, Mn.atI_0, gx_mulL, gx_mulT, ux_isB, ux_notB, ux_isNN, ux_notNN, ux_isSN, ux_notSN, ux_isIN, ux_notIN, ux_isTN, ux_notTN, ux_isRN, ux_notRN, gx_sort, gx_dct, Mn.atI_1, Mn.atI_2, Mn.atI_3, List.length_map, set_lastM, set_lastL, List.getLast?_concat, List.dropLast_concat, gcn_str, gcn_int, gcn_bl, gcn_non, gcs_str, gcs_int, gcs_bl, gcs_non, gcn_tup, gcs_tup, gcn_lst, gcn_lst1, gcn_lst2, refsL_strs, refsL_nil, refsL_s, refsL_i, refsL_n, refsL_b, refsL_t, refsL_app, ux_slS, ux_addS, ux_iaddS, ux_lenS, ux_ixS, ux_inT2, ux_inT3, findK_nil, findK_cons, putKD_nil, putKD_cons, gx_rvL, gx_rvF, gx_rvT, gx_rvS, gx_repl, ws_no, ux_neB, ux_eqB, txsOf_map, ws_forE, keyOf_str, keyOf_int, joinTx_nil, List.foldl_cons, List.foldl_nil]; repeat (refine And.intro (by omega) ?_))
  unfold askD at q ⊢
  ((try dsimp only); try simp -implicitDefEqProofs only [ws_seq, ws_set, ws_par2, ws_exp, ws_ret, ws_if, ws_tg, ws_nil, ws_aug, thenR_nx, thenR_ret, thenR_bk, thenR_ct, wp_var, wp_con, wp_bin, wp_un, wp_nil, wp_cons, wp_fn, wp_test, wp_and, wp_or, wp_not, wq_andV, wq_orV, bIf_bl, ite_both, ux_mulST, wp_notV, wp_if, wq_chain, wp_call, wp_sl, wp_nopart, wp_part, wp_bm, wp_iter, wp_rng1, wp_rng2, wp_lc, wp_bind, wp_ok, wp_up, Tg.set, setsD, List.getElem?_cons_zero, List.getElem?_cons_succ, List.set_cons_zero, List.set_cons_succ, List.length_cons, List.length_nil, and_self, if_true, reduceCtorEq, Nat.reduceAdd, List.map_cons, List.map_nil, Nat.reduceSub, List.replicate_succ, List.replicate_zero, List.cons_append, List.nil_append, ux_add, ux_iadd, ux_sub, ux_mul, ux_div, ux_mod, ux_pow, ux_neg, ux_eqI, ux_neI, ux_eqS, ux_neS, ux_lt, ux_le, ux_gt, ux_ge, ux_abs, ux_max, ux_min, ux_intI, ux_intB, ux_lst, ux_tup, mulOk_iff, true_or, or_true, ux_lenT, ux_lenF, ux_t0, ux_t1, ux_t2, ux_t3, ux_t4, ux_t5, isB, decide_eq_true_eq, Bool.not_eq_true', decide_eq_false_iff_not, i62, true_and, and_true, if_false, Int.reduceLT, Int.reduceLE, Int.reduceAbs, Nat.reduceLT, Nat.reduceLeDiff, Nat.reducePow, Int.reducePow, Int.reduceToNat, Int.reduceNeg, Nat.reduceEqDiff, or_self, not_true, not_false_eq_true, Bool.not_true, Bool.not_false, decide_true, decide_false, Bool.false_eq_true, len_map1, app2, app3, List.append_assoc, List.length_append, Nat.zero_add, Nat.add_zero, get_newc, get_new1, get_new2, get_new3, set_newc, set_new1, set_new2, it_str, it_tup, it_frl, gx_it, gx_isLs, gx_isTx, gx_len, gx_ixI, gx_ixS, gx_getI, gx_getS, ws_storeP, ws_aug2P, gx_stI, gx_stS, gx_app, gx_pop, gx_rev, gx_cat, gx_catT, gx_sl, gx_slT, gx_slF, gx_join, gx_joinT, gx_tup, gx_tupT, gx_tupF, gx_lst, gx_lstT, gx_lstF, gx_all, gx_notInK, Mn.atI_last, Mn.ixN_last, Mn.atI_0, gx_mulL, gx_mulT, ux_isB, ux_notB, ux_isNN, ux_notNN, ux_isSN, ux_notSN, ux_isIN, ux_notIN, ux_isTN, ux_notTN, ux_isRN, ux_notRN, gx_sort, gx_dct, Mn.atI_1, Mn.atI_2, Mn.atI_3, List.length_map, set_lastM, set_lastL, List.getLast?_concat, List.dropLast_concat, gcn_str, gcn_int, gcn_bl, gcn_non, gcs_str, gcs_int, gcs_bl, gcs_non, gcn_tup, gcs_tup, gcn_lst, gcn_lst1, gcn_lst2, refsL_strs, refsL_nil, refsL_s, refsL_i, refsL_n, refsL_b, refsL_t, refsL_app, ux_slS, ux_addS, ux_iaddS, ux_lenS, ux_ixS, ux_inT2, ux_inT3, findK_nil, findK_cons, putKD_nil, putKD_cons, gx_rvL, gx_rvF, gx_rvT, gx_rvS, gx_repl, ws_no, ux_neB, ux_eqB, txsOf_map, ws_forE, keyOf_str, keyOf_int, joinTx_nil, List.foldl_cons, List.foldl_nil]; repeat (refine And.intro (by omega) ?_))
  exact q
theorem put_in_then {m : MH} {a0 b : Nat} {x : Mn.Tx} {R : Regs} {S : Strs} {A : List Mn.Tx} {P : D → MH → Prop} (hm : m[a0]? = some (.dct (dK regD R))) (hb : m[b]? = some (.dct (dK D.str S))) (hR : RegsOk R) (hl : R.length ≤ 1000) (K : PutOk S A) (hx : x.length ≤ 200)
    (q : P (.tup [.str (putF S A x R).1, .ref m.length]) (m ++ [.dct (dK regD (putF S A x R).2)])) : wp (f_put_in [.str x, .ref a0, .ref b, .tup (A.map D.str)] m) P := by
  apply wp_fnD
  unfold b_put_in
  ((try dsimp only); try simp -implicitDefEqProofs only [ws_seq, ws_set, ws_par2, ws_exp, ws_ret, ws_if, ws_tg, ws_nil, ws_aug, thenR_nx, thenR_ret, thenR_bk, thenR_ct, wp_var, wp_con, wp_bin, wp_un, wp_nil, wp_cons, wp_fn, wp_test, wp_and, wp_or, wp_not, wq_andV, wq_orV, bIf_bl, ite_both, ux_mulST, wp_notV, wp_if, wq_chain, wp_call, wp_sl, wp_nopart, wp_part, wp_bm, wp_iter, wp_rng1, wp_rng2, wp_lc, wp_bind, wp_ok, wp_up, Tg.set, setsD, List.getElem?_cons_zero, List.getElem?_cons_succ, List.set_cons_zero, List.set_cons_succ, List.length_cons, List.length_nil, and_self, if_true, reduceCtorEq, Nat.reduceAdd, List.map_cons, List.map_nil, Nat.reduceSub, List.replicate_succ, List.replicate_zero, List.cons_append, List.nil_append, ux_add, ux_iadd, ux_sub, ux_mul, ux_div, ux_mod, ux_pow, ux_neg, ux_eqI, ux_neI, ux_eqS, ux_neS, ux_lt, ux_le, ux_gt, ux_ge, ux_abs, ux_max, ux_min, ux_intI, ux_intB, ux_lst, ux_tup, mulOk_iff, true_or, or_true, ux_lenT, ux_lenF, ux_t0, ux_t1, ux_t2, ux_t3, ux_t4, ux_t5, isB, decide_eq_true_eq, Bool.not_eq_true', decide_eq_false_iff_not, i62, true_and, and_true, if_false, Int.reduceLT, Int.reduceLE, Int.reduceAbs, Nat.reduceLT, Nat.reduceLeDiff, Nat.reducePow, Int.reducePow, Int.reduceToNat, Int.reduceNeg, Nat.reduceEqDiff, or_self, not_true, not_false_eq_true, Bool.not_true, Bool.not_false, decide_true, decide_false, Bool.false_eq_true, len_map1, app2, app3, List.append_assoc, List.length_append, Nat.zero_add, Nat.add_zero, get_newc, get_new1, get_new2, get_new3, set_newc, set_new1, set_new2, it_str, it_tup, it_frl, gx_it, gx_isLs, gx_isTx, gx_len, gx_ixI, gx_ixS, gx_getI, gx_getS, ws_storeP, ws_aug2P, gx_stI, gx_stS, gx_app, gx_pop, gx_rev, gx_cat, gx_catT, gx_sl, gx_slT, gx_slF, gx_join, gx_joinT, gx_tup, gx_tupT, gx_tupF, gx_lst, gx_lstT, gx_lstF, gx_all, gx_notInK, Mn.atI_last, Mn.ixN_last, Mn.atI_0, gx_mulL, gx_mulT, ux_isB, ux_notB, ux_isNN, ux_notNN, ux_isSN, ux_notSN, ux_isIN, ux_notIN, ux_isTN, ux_notTN, ux_isRN, ux_notRN, gx_sort, gx_dct, Mn.atI_1, Mn.atI_2, Mn.atI_3, List.length_map, set_lastM, set_lastL, List.getLast?_concat, List.dropLast_concat, gcn_str, gcn_int, gcn_bl, gcn_non, gcs_str, gcs_int, gcs_bl, gcs_non, gcn_tup, gcs_tup, gcn_lst, gcn_lst1, gcn_lst2, refsL_strs, refsL_nil, refsL_s, refsL_i, refsL_n, refsL_b, refsL_t, refsL_app, ux_slS, ux_addS, ux_iaddS, ux_lenS, ux_ixS, ux_inT2, ux_inT3, findK_nil, findK_cons, putKD_nil, putKD_cons, gx_rvL, gx_rvF, gx_rvT, gx_rvS, gx_repl, ws_no, ux_neB, ux_eqB, txsOf_map, ws_forE, keyOf_str, keyOf_int, joinTx_nil, List.foldl_cons, List.foldl_nil, hm]; repeat (refine And.intro (by omega) ?_))
  unfold r10_put_in
  ((try dsimp only); try simp -implicitDefEqProofs only [ws_seq, ws_set, ws_par2, ws_exp, ws_ret, ws_if, ws_tg, ws_nil, ws_aug, thenR_nx, thenR_ret, thenR_bk, thenR_ct, wp_var, wp_con, wp_bin, wp_un, wp_nil, wp_cons, wp_fn, wp_test, wp_and, wp_or, wp_not, wq_andV, wq_orV, bIf_bl, ite_both, ux_mulST, wp_notV, wp_if, wq_chain, wp_call, wp_sl, wp_nopart, wp_part, wp_bm, wp_iter, wp_rng1, wp_rng2, wp_lc, wp_bind, wp_ok, wp_up, Tg.set, setsD, List.getElem?_cons_zero, List.getElem?_cons_succ, List.set_cons_zero, List.set_cons_succ, List.length_cons, List.length_nil, and_self, if_true, reduceCtorEq, Nat.reduceAdd, List.map_cons, List.map_nil, Nat.reduceSub, List.replicate_succ, List.replicate_zero, List.cons_append, List.nil_append, ux_add, ux_iadd, ux_sub, ux_mul, ux_div, ux_mod, ux_pow, ux_neg, ux_eqI, ux_neI, ux_eqS, ux_neS, ux_lt, ux_le, ux_gt, ux_ge, ux_abs, ux_max, ux_min, ux_intI, ux_intB, ux_lst, ux_tup, mulOk_iff, true_or, or_true, ux_lenT, ux_lenF, ux_t0, ux_t1, ux_t2, ux_t3, ux_t4, ux_t5, isB, decide_eq_true_eq, Bool.not_eq_true', decide_eq_false_iff_not, i62, true_and, and_true, if_false, Int.reduceLT, Int.reduceLE, Int.reduceAbs, Nat.reduceLT, Nat.reduceLeDiff, Nat.reducePow, Int.reducePow, Int.reduceToNat, Int.reduceNeg, Nat.reduceEqDiff, or_self, not_true, not_false_eq_true, Bool.not_true, Bool.not_false, decide_true, decide_false, Bool.false_eq_true, len_map1, app2, app3, List.append_assoc, List.length_append, Nat.zero_add, Nat.add_zero, get_newc, get_new1, get_new2, get_new3, set_newc, set_new1, set_new2, it_str, it_tup, it_frl, gx_it, gx_isLs, gx_isTx, gx_len, gx_ixI, gx_ixS, gx_getI, gx_getS, ws_storeP, ws_aug2P, gx_stI, gx_stS, gx_app, gx_pop, gx_rev, gx_cat, gx_catT, gx_sl, gx_slT, gx_slF, gx_join, gx_joinT, gx_tup, gx_tupT, gx_tupF, gx_lst, gx_lstT, gx_lstF, gx_all, gx_notInK, Mn.atI_last, Mn.ixN_last, Mn.atI_0, gx_mulL, gx_mulT, ux_isB, ux_notB, ux_isNN, ux_notNN, ux_isSN, ux_notSN, ux_isIN, ux_notIN, ux_isTN, ux_notTN, ux_isRN, ux_notRN, gx_sort, gx_dct, Mn.atI_1, Mn.atI_2, Mn.atI_3, List.length_map, set_lastM, set_lastL, List.getLast?_concat, List.dropLast_concat, gcn_str, gcn_int, gcn_bl, gcn_non, gcs_str, gcs_int, gcs_bl, gcs_non, gcn_tup, gcs_tup, gcn_lst, gcn_lst1, gcn_lst2, refsL_strs, refsL_nil, refsL_s, refsL_i, refsL_n, refsL_b, refsL_t, refsL_app, ux_slS, ux_addS, ux_iaddS, ux_lenS, ux_ixS, ux_inT2, ux_inT3, findK_nil, findK_cons, putKD_nil, putKD_cons, gx_rvL, gx_rvF, gx_rvT, gx_rvS, gx_repl, ws_no, ux_neB, ux_eqB, txsOf_map, ws_forE, keyOf_str, keyOf_int, joinTx_nil, List.foldl_cons, List.foldl_nil]; repeat (refine And.intro (by omega) ?_))
  unfold r9_put_in
  ((try dsimp only); try simp -implicitDefEqProofs only [ws_seq, ws_set, ws_par2, ws_exp, ws_ret, ws_if, ws_tg, ws_nil, ws_aug, thenR_nx, thenR_ret, thenR_bk, thenR_ct, wp_var, wp_con, wp_bin, wp_un, wp_nil, wp_cons, wp_fn, wp_test, wp_and, wp_or, wp_not, wq_andV, wq_orV, bIf_bl, ite_both, ux_mulST, wp_notV, wp_if, wq_chain, wp_call, wp_sl, wp_nopart, wp_part, wp_bm, wp_iter, wp_rng1, wp_rng2, wp_lc, wp_bind, wp_ok, wp_up, Tg.set, setsD, List.getElem?_cons_zero, List.getElem?_cons_succ, List.set_cons_zero, List.set_cons_succ, List.length_cons, List.length_nil, and_self, if_true, reduceCtorEq, Nat.reduceAdd, List.map_cons, List.map_nil, Nat.reduceSub, List.replicate_succ, List.replicate_zero, List.cons_append, List.nil_append, ux_add, ux_iadd, ux_sub, ux_mul, ux_div, ux_mod, ux_pow, ux_neg, ux_eqI, ux_neI, ux_eqS, ux_neS, ux_lt, ux_le, ux_gt, ux_ge, ux_abs, ux_max, ux_min, ux_intI, ux_intB, ux_lst, ux_tup, mulOk_iff, true_or, or_true, ux_lenT, ux_lenF, ux_t0, ux_t1, ux_t2, ux_t3, ux_t4, ux_t5, isB, decide_eq_true_eq, Bool.not_eq_true', decide_eq_false_iff_not, i62, true_and, and_true, if_false, Int.reduceLT, Int.reduceLE, Int.reduceAbs, Nat.reduceLT, Nat.reduceLeDiff, Nat.reducePow, Int.reducePow, Int.reduceToNat, Int.reduceNeg, Nat.reduceEqDiff, or_self, not_true, not_false_eq_true, Bool.not_true, Bool.not_false, decide_true, decide_false, Bool.false_eq_true, len_map1, app2, app3, List.append_assoc, List.length_append, Nat.zero_add, Nat.add_zero, get_newc, get_new1, get_new2, get_new3, set_newc, set_new1, set_new2, it_str, it_tup, it_frl, gx_it, gx_isLs, gx_isTx, gx_len, gx_ixI, gx_ixS, gx_getI, gx_getS, ws_storeP, ws_aug2P, gx_stI, gx_stS, gx_app, gx_pop, gx_rev, gx_cat, gx_catT, gx_sl, gx_slT, gx_slF, gx_join, gx_joinT, gx_tup, gx_tupT, gx_tupF, gx_lst, gx_lstT, gx_lstF, gx_all, gx_notInK, Mn.atI_last, Mn.ixN_last, Mn.atI_0, gx_mulL, gx_mulT, ux_isB, ux_notB, ux_isNN, ux_notNN, ux_isSN, ux_notSN, ux_isIN, ux_notIN, ux_isTN, ux_notTN, ux_isRN, ux_notRN, gx_sort, gx_dct, Mn.atI_1, Mn.atI_2, Mn.atI_3, List.length_map, set_lastM, set_lastL, List.getLast?_concat, List.dropLast_concat, gcn_str, gcn_int, gcn_bl, gcn_non, gcs_str, gcs_int, gcs_bl, gcs_non, gcn_tup, gcs_tup, gcn_lst, gcn_lst1, gcn_lst2, refsL_strs, refsL_nil, refsL_s, refsL_i, refsL_n, refsL_b, refsL_t, refsL_app, ux_slS, ux_addS, ux_iaddS, ux_lenS, ux_ixS, ux_inT2, ux_inT3, findK_nil, findK_cons, putKD_nil, putKD_cons, gx_rvL, gx_rvF, gx_rvT, gx_rvS, gx_repl, ws_no, ux_neB, ux_eqB, txsOf_map, ws_forE, keyOf_str, keyOf_int, joinTx_nil, List.foldl_cons, List.foldl_nil]; repeat (refine And.intro (by omega) ?_))
  unfold r8_put_in
  ((try dsimp only); try simp -implicitDefEqProofs only [ws_seq, ws_set, ws_par2, ws_exp, ws_ret, ws_if, ws_tg, ws_nil, ws_aug, thenR_nx, thenR_ret, thenR_bk, thenR_ct, wp_var, wp_con, wp_bin, wp_un, wp_nil, wp_cons, wp_fn, wp_test, wp_and, wp_or, wp_not, wq_andV, wq_orV, bIf_bl, ite_both, ux_mulST, wp_notV, wp_if, wq_chain, wp_call, wp_sl, wp_nopart, wp_part, wp_bm, wp_iter, wp_rng1, wp_rng2, wp_lc, wp_bind, wp_ok, wp_up, Tg.set, setsD, List.getElem?_cons_zero, List.getElem?_cons_succ, List.set_cons_zero, List.set_cons_succ, List.length_cons, List.length_nil, and_self, if_true, reduceCtorEq, Nat.reduceAdd, List.map_cons, List.map_nil, Nat.reduceSub, List.replicate_succ, List.replicate_zero, List.cons_append, List.nil_append, ux_add, ux_iadd, ux_sub, ux_mul, ux_div, ux_mod, ux_pow, ux_neg, ux_eqI, ux_neI, ux_eqS, ux_neS, ux_lt, ux_le, ux_gt, ux_ge, ux_abs, ux_max, ux_min, ux_intI, ux_intB, ux_lst, ux_tup, mulOk_iff, true_or, or_true, ux_lenT, ux_lenF, ux_t0, ux_t1, ux_t2, ux_t3, ux_t4, ux_t5, isB, decide_eq_true_eq, Bool.not_eq_true', decide_eq_false_iff_not, i62, true_and, and_true, if_false, Int.reduceLT, Int.reduceLE, Int.reduceAbs, Nat.reduceLT, Nat.reduceLeDiff, Nat.reducePow, Int.reducePow, Int.reduceToNat, Int.reduceNeg, Nat.reduceEqDiff, or_self, not_true, not_false_eq_true, Bool.not_true, Bool.not_false, decide_true, decide_false, Bool.false_eq_true, len_map1, app2, app3, List.append_assoc, List.length_append, Nat.zero_add, Nat.add_zero, get_newc, get_new1, get_new2, get_new3, set_newc, set_new1, set_new2, it_str, it_tup, it_frl, gx_it, gx_isLs, gx_isTx, gx_len, gx_ixI, gx_ixS, gx_getI, gx_getS, ws_storeP, ws_aug2P, gx_stI, gx_stS, gx_app, gx_pop, gx_rev, gx_cat, gx_catT, gx_sl, gx_slT, gx_slF, gx_join, gx_joinT, gx_tup, gx_tupT, gx_tupF, gx_lst, gx_lstT, gx_lstF, gx_all, gx_notInK, Mn.atI_last, Mn.ixN_last, Mn.atI_0, gx_mulL, gx_mulT, ux_isB, ux_notB, ux_isNN, ux_notNN, ux_isSN, ux_notSN, ux_isIN, ux_notIN, ux_isTN, ux_notTN, ux_isRN, ux_notRN, gx_sort, gx_dct, Mn.atI_1, Mn.atI_2, Mn.atI_3, List.length_map, set_lastM, set_lastL, List.getLast?_concat, List.dropLast_concat, gcn_str, gcn_int, gcn_bl, gcn_non, gcs_str, gcs_int, gcs_bl, gcs_non, gcn_tup, gcs_tup, gcn_lst, gcn_lst1, gcn_lst2, refsL_strs, refsL_nil, refsL_s, refsL_i, refsL_n, refsL_b, refsL_t, refsL_app, ux_slS, ux_addS, ux_iaddS, ux_lenS, ux_ixS, ux_inT2, ux_inT3, findK_nil, findK_cons, putKD_nil, putKD_cons, gx_rvL, gx_rvF, gx_rvT, gx_rvS, gx_repl, ws_no, ux_neB, ux_eqB, txsOf_map, ws_forE, keyOf_str, keyOf_int, joinTx_nil, List.foldl_cons, List.foldl_nil]; repeat (refine And.intro (by omega) ?_))
  refine ws_while (fun k f m' => ∃ (acc : Mn.Tx) (n : Nat) (Ri : Regs) (v7 v8 v9 : Option D), f = [some (.str x), some (.ref a0), some (.ref b), some (.tup (A.map D.str)), some (.ref m.length), some (.str acc), some (.int (n : Nat)), v7, v8, v9] ∧ m' = m ++ [.dct (dK regD Ri)] ∧ RegsOk Ri ∧ n ≤ x.length ∧ k = x.length - n ∧ Ri.length ≤ 1000 + n ∧ acc.length ≤ 200 * n ∧
    acc ++ (putAll (told S A) (x.drop n) Ri).1 = (putAll (told S A) x R).1 ∧ (putAll (told S A) (x.drop n) Ri).2 = (putAll (told S A) x R).2) (n0 := x.length) (by omega) ⟨[], 0, R, _, _, _, rfl, rfl, hR, by omega, by omega, by omega, by simp, by simp, by simp⟩ ?_
  rintro k f m' ⟨acc, n, Ri, v7, v8, v9, rfl, rfl, hRi, hn, rfl, rl, al, t1, t2⟩
  have hbA := fun g => old_app (g := g) hb
  ((try dsimp only); try simp -implicitDefEqProofs only [ws_seq, ws_set, ws_par2, ws_exp, ws_ret, ws_if, ws_tg, ws_nil, ws_aug, thenR_nx, thenR_ret, thenR_bk, thenR_ct, wp_var, wp_con, wp_bin, wp_un, wp_nil, wp_cons, wp_fn, wp_test, wp_and, wp_or, wp_not, wq_andV, wq_orV, bIf_bl, ite_both, ux_mulST, wp_notV, wp_if, wq_chain, wp_call, wp_sl, wp_nopart, wp_part, wp_bm, wp_iter, wp_rng1, wp_rng2, wp_lc, wp_bind, wp_ok, wp_up, Tg.set, setsD, List.getElem?_cons_zero, List.getElem?_cons_succ, List.set_cons_zero, List.set_cons_succ, List.length_cons, List.length_nil, and_self, if_true, reduceCtorEq, Nat.reduceAdd, List.map_cons, List.map_nil, Nat.reduceSub, List.replicate_succ, List.replicate_zero, List.cons_append, List.nil_append, ux_add, ux_iadd, ux_sub, ux_mul, ux_div, ux_mod, ux_pow, ux_neg, ux_eqI, ux_neI, ux_eqS, ux_neS, ux_lt, ux_le, ux_gt, ux_ge, ux_abs, ux_max, ux_min, ux_intI, ux_intB, ux_lst, ux_tup, mulOk_iff, true_or, or_true, ux_lenT, ux_lenF, ux_t0, ux_t1, ux_t2, ux_t3, ux_t4, ux_t5, isB, decide_eq_true_eq, Bool.not_eq_true', decide_eq_false_iff_not, i62, true_and, and_true, if_false, Int.reduceLT, Int.reduceLE, Int.reduceAbs, Nat.reduceLT, Nat.reduceLeDiff, Nat.reducePow, Int.reducePow, Int.reduceToNat, Int.reduceNeg, Nat.reduceEqDiff, or_self, not_true, not_false_eq_true, Bool.not_true, Bool.not_false, decide_true, decide_false, Bool.false_eq_true, len_map1, app2, app3, List.append_assoc, List.length_append, Nat.zero_add, Nat.add_zero, get_newc, get_new1, get_new2, get_new3, set_newc, set_new1, set_new2, it_str, it_tup, it_frl, gx_it, gx_isLs, gx_isTx, gx_len, gx_ixI, gx_ixS, gx_getI, gx_getS, ws_storeP, ws_aug2P, gx_stI, gx_stS, gx_app, gx_pop, gx_rev, gx_cat, gx_catT, gx_sl, gx_slT, gx_slF, gx_join, gx_joinT, gx_tup, gx_tupT, gx_tupF, gx_lst, gx_lstT, gx_lstF, gx_all, gx_notInK, Mn.atI_last, Mn.ixN_last, Mn.atI_0, gx_mulL, gx_mulT, ux_isB, ux_notB, ux_isNN, ux_notNN, ux_isSN, ux_notSN, ux_isIN, ux_notIN, ux_isTN, ux_notTN, ux_isRN, ux_notRN, gx_sort, gx_dct, Mn.atI_1, Mn.atI_2, Mn.atI_3, List.length_map, set_lastM, set_lastL, List.getLast?_concat, List.dropLast_concat, gcn_str, gcn_int, gcn_bl, gcn_non, gcs_str, gcs_int, gcs_bl, gcs_non, gcn_tup, gcs_tup, gcn_lst, gcn_lst1, gcn_lst2, refsL_strs, refsL_nil, refsL_s, refsL_i, refsL_n, refsL_b, refsL_t, refsL_app, ux_slS, ux_addS, ux_iaddS, ux_lenS, ux_ixS, ux_inT2, ux_inT3, findK_nil, findK_cons, putKD_nil, putKD_cons, gx_rvL, gx_rvF, gx_rvT, gx_rvS, gx_repl, ws_no, ux_neB, ux_eqB, txsOf_map, ws_forE, keyOf_str, keyOf_int, joinTx_nil, List.foldl_cons, List.foldl_nil]; repeat (refine And.intro (by omega) ?_))
  by_cases hlt : n < x.length
  · rw [if_pos (by omega)]
    have hy : x.drop n ≠ [] := fun z => by
      have := congrArg List.length z
      rw [List.length_drop] at this
      simp at this
      omega
    have yl : (x.drop n).length = x.length - n := List.length_drop
    unfold l7_put_in
    ((try dsimp only); try simp -implicitDefEqProofs only [ws_seq, ws_set, ws_par2, ws_exp, ws_ret, ws_if, ws_tg, ws_nil, ws_aug, thenR_nx, thenR_ret, thenR_bk, thenR_ct, wp_var, wp_con, wp_bin, wp_un, wp_nil, wp_cons, wp_fn, wp_test, wp_and, wp_or, wp_not, wq_andV, wq_orV, bIf_bl, ite_both, ux_mulST, wp_notV, wp_if, wq_chain, wp_call, wp_sl, wp_nopart, wp_part, wp_bm, wp_iter, wp_rng1, wp_rng2, wp_lc, wp_bind, wp_ok, wp_up, Tg.set, setsD, List.getElem?_cons_zero, List.getElem?_cons_succ, List.set_cons_zero, List.set_cons_succ, List.length_cons, List.length_nil, and_self, if_true, reduceCtorEq, Nat.reduceAdd, List.map_cons, List.map_nil, Nat.reduceSub, List.replicate_succ, List.replicate_zero, List.cons_append, List.nil_append, ux_add, ux_iadd, ux_sub, ux_mul, ux_div, ux_mod, ux_pow, ux_neg, ux_eqI, ux_neI, ux_eqS, ux_neS, ux_lt, ux_le, ux_gt, ux_ge, ux_abs, ux_max, ux_min, ux_intI, ux_intB, ux_lst, ux_tup, mulOk_iff, true_or, or_true, ux_lenT, ux_lenF, ux_t0, ux_t1, ux_t2, ux_t3, ux_t4, ux_t5, isB, decide_eq_true_eq, Bool.not_eq_true', decide_eq_false_iff_not, i62, true_and, and_true, if_false, Int.reduceLT, Int.reduceLE, Int.reduceAbs, Nat.reduceLT, Nat.reduceLeDiff, Nat.reducePow, Int.reducePow, Int.reduceToNat, Int.reduceNeg, Nat.reduceEqDiff, or_self, not_true, not_false_eq_true, Bool.not_true, Bool.not_false, decide_true, decide_false, Bool.false_eq_true, len_map1, app2, app3, List.append_assoc, List.length_append, Nat.zero_add, Nat.add_zero, get_newc, get_new1, get_new2, get_new3, set_newc, set_new1, set_new2, it_str, it_tup, it_frl, gx_it, gx_isLs, gx_isTx, gx_len, gx_ixI, gx_ixS, gx_getI, gx_getS, ws_storeP, ws_aug2P, gx_stI, gx_stS, gx_app, gx_pop, gx_rev, gx_cat, gx_catT, gx_sl, gx_slT, gx_slF, gx_join, gx_joinT, gx_tup, gx_tupT, gx_tupF, gx_lst, gx_lstT, gx_lstF, gx_all, gx_notInK, Mn.atI_last, Mn.ixN_last, Mn.atI_0, gx_mulL, gx_mulT, ux_isB, ux_notB, ux_isNN, ux_notNN, ux_isSN, ux_notSN, ux_isIN, ux_notIN, ux_isTN, ux_notTN, ux_isRN, ux_notRN, gx_sort, gx_dct, Mn.atI_1, Mn.atI_2, Mn.atI_3, List.length_map, set_lastM, set_lastL, List.getLast?_concat, List.dropLast_concat, gcn_str, gcn_int, gcn_bl, gcn_non, gcs_str, gcs_int, gcs_bl, gcs_non, gcn_tup, gcs_tup, gcn_lst, gcn_lst1, gcn_lst2, refsL_strs, refsL_nil, refsL_s, refsL_i, refsL_n, refsL_b, refsL_t, refsL_app, ux_slS, ux_addS, ux_iaddS, ux_lenS, ux_ixS, ux_inT2, ux_inT3, findK_nil, findK_cons, putKD_nil, putKD_cons, gx_rvL, gx_rvF, gx_rvT, gx_rvS, gx_repl, ws_no, ux_neB, ux_eqB, txsOf_map, ws_forE, keyOf_str, keyOf_int, joinTx_nil, List.foldl_cons, List.foldl_nil, pD, pks, Pk.get, List.drop_zero, List.drop_succ_cons, List.take_succ_cons, List.take_zero]; repeat (refine And.intro (by omega) ?_))
    refine asked_at_then (by omega) hn ?_
    ((try dsimp only); try simp -implicitDefEqProofs only [ws_seq, ws_set, ws_par2, ws_exp, ws_ret, ws_if, ws_tg, ws_nil, ws_aug, thenR_nx, thenR_ret, thenR_bk, thenR_ct, wp_var, wp_con, wp_bin, wp_un, wp_nil, wp_cons, wp_fn, wp_test, wp_and, wp_or, wp_not, wq_andV, wq_orV, bIf_bl, ite_both, ux_mulST, wp_notV, wp_if, wq_chain, wp_call, wp_sl, wp_nopart, wp_part, wp_bm, wp_iter, wp_rng1, wp_rng2, wp_lc, wp_bind, wp_ok, wp_up, Tg.set, setsD, List.getElem?_cons_zero, List.getElem?_cons_succ, List.set_cons_zero, List.set_cons_succ, List.length_cons, List.length_nil, and_self, if_true, reduceCtorEq, Nat.reduceAdd, List.map_cons, List.map_nil, Nat.reduceSub, List.replicate_succ, List.replicate_zero, List.cons_append, List.nil_append, ux_add, ux_iadd, ux_sub, ux_mul, ux_div, ux_mod, ux_pow, ux_neg, ux_eqI, ux_neI, ux_eqS, ux_neS, ux_lt, ux_le, ux_gt, ux_ge, ux_abs, ux_max, ux_min, ux_intI, ux_intB, ux_lst, ux_tup, mulOk_iff, true_or, or_true, ux_lenT, ux_lenF, ux_t0, ux_t1, ux_t2, ux_t3, ux_t4, ux_t5, isB, decide_eq_true_eq, Bool.not_eq_true', decide_eq_false_iff_not, i62, true_and, and_true, if_false, Int.reduceLT, Int.reduceLE, Int.reduceAbs, Nat.reduceLT, Nat.reduceLeDiff, Nat.reducePow, Int.reducePow, Int.reduceToNat, Int.reduceNeg, Nat.reduceEqDiff, or_self, not_true, not_false_eq_true, Bool.not_true, Bool.not_false, decide_true, decide_false, Bool.false_eq_true, len_map1, app2, app3, List.append_assoc, List.length_append, Nat.zero_add, Nat.add_zero, get_newc, get_new1, get_new2, get_new3, set_newc, set_new1, set_new2, it_str, it_tup, it_frl, gx_it, gx_isLs, gx_isTx, gx_len, gx_ixI, gx_ixS, gx_getI, gx_getS, ws_storeP, ws_aug2P, gx_stI, gx_stS, gx_app, gx_pop, gx_rev, gx_cat, gx_catT, gx_sl, gx_slT, gx_slF, gx_join, gx_joinT, gx_tup, gx_tupT, gx_tupF, gx_lst, gx_lstT, gx_lstF, gx_all, gx_notInK, Mn.atI_last, Mn.ixN_last, Mn.atI_0, gx_mulL, gx_mulT, ux_isB, ux_notB, ux_isNN, ux_notNN, ux_isSN, ux_notSN, ux_isIN, ux_notIN, ux_isTN, ux_notTN, ux_isRN, ux_notRN, gx_sort, gx_dct, Mn.atI_1, Mn.atI_2, Mn.atI_3, List.length_map, set_lastM, set_lastL, List.getLast?_concat, List.dropLast_concat, gcn_str, gcn_int, gcn_bl, gcn_non, gcs_str, gcs_int, gcs_bl, gcs_non, gcn_tup, gcs_tup, gcn_lst, gcn_lst1, gcn_lst2, refsL_strs, refsL_nil, refsL_s, refsL_i, refsL_n, refsL_b, refsL_t, refsL_app, ux_slS, ux_addS, ux_iaddS, ux_lenS, ux_ixS, ux_inT2, ux_inT3, findK_nil, findK_cons, putKD_nil, putKD_cons, gx_rvL, gx_rvF, gx_rvT, gx_rvS, gx_repl, ws_no, ux_neB, ux_eqB, txsOf_map, ws_forE, keyOf_str, keyOf_int, joinTx_nil, List.foldl_cons, List.foldl_nil]; repeat (refine And.intro (by omega) ?_))
    unfold r6_put_in
    have skip : (∀ c inn, askS (x.drop n) = some (c, inn) → (told S A c inn Ri).1 = none) → ∃ (acc' : Mn.Tx), acc' = acc ++ (x.drop n).take (skipN (x.drop n)) ∧ acc'.length ≤ 200 * (n + skipN (x.drop n)) ∧ acc' ++ (putAll (told S A) (x.drop (n + skipN (x.drop n))) Ri).1 = (putAll (told S A) x R).1 ∧ (putAll (told S A) (x.drop (n + skipN (x.drop n))) Ri).2 = (putAll (told S A) x R).2 := fun h => by
      have e := putAll_skip (told S A) hy h
      rw [List.drop_drop] at e
      have sk := skip_pos (x.drop n)
      refine ⟨_, rfl, ?_, ?_, ?_⟩
      · rw [List.length_append, List.length_take]
        omega
      · rw [← t1, e, List.append_assoc]
      · rw [← t2, e]
    have sk := skip_pos (x.drop n)
    have sl := skip_le hy
    cases ha : askS (x.drop n) with
    | none =>
      rw [ha] at skip
      unfold askD
      ((try dsimp only); try simp -implicitDefEqProofs only [ws_seq, ws_set, ws_par2, ws_exp, ws_ret, ws_if, ws_tg, ws_nil, ws_aug, thenR_nx, thenR_ret, thenR_bk, thenR_ct, wp_var, wp_con, wp_bin, wp_un, wp_nil, wp_cons, wp_fn, wp_test, wp_and, wp_or, wp_not, wq_andV, wq_orV, bIf_bl, ite_both, ux_mulST, wp_notV, wp_if, wq_chain, wp_call, wp_sl, wp_nopart, wp_part, wp_bm, wp_iter, wp_rng1, wp_rng2, wp_lc, wp_bind, wp_ok, wp_up, Tg.set, setsD, List.getElem?_cons_zero, List.getElem?_cons_succ, List.set_cons_zero, List.set_cons_succ, List.length_cons, List.length_nil, and_self, if_true, reduceCtorEq, Nat.reduceAdd, List.map_cons, List.map_nil, Nat.reduceSub, List.replicate_succ, List.replicate_zero, List.cons_append, List.nil_append, ux_add, ux_iadd, ux_sub, ux_mul, ux_div, ux_mod, ux_pow, ux_neg, ux_eqI, ux_neI, ux_eqS, ux_neS, ux_lt, ux_le, ux_gt, ux_ge, ux_abs, ux_max, ux_min, ux_intI, ux_intB, ux_lst, ux_tup, mulOk_iff, true_or, or_true, ux_lenT, ux_lenF, ux_t0, ux_t1, ux_t2, ux_t3, ux_t4, ux_t5, isB, decide_eq_true_eq, Bool.not_eq_true', decide_eq_false_iff_not, i62, true_and, and_true, if_false, Int.reduceLT, Int.reduceLE, Int.reduceAbs, Nat.reduceLT, Nat.reduceLeDiff, Nat.reducePow, Int.reducePow, Int.reduceToNat, Int.reduceNeg, Nat.reduceEqDiff, or_self, not_true, not_false_eq_true, Bool.not_true, Bool.not_false, decide_true, decide_false, Bool.false_eq_true, len_map1, app2, app3, List.append_assoc, List.length_append, Nat.zero_add, Nat.add_zero, get_newc, get_new1, get_new2, get_new3, set_newc, set_new1, set_new2, it_str, it_tup, it_frl, gx_it, gx_isLs, gx_isTx, gx_len, gx_ixI, gx_ixS, gx_getI, gx_getS, ws_storeP, ws_aug2P, gx_stI, gx_stS, gx_app, gx_pop, gx_rev, gx_cat, gx_catT, gx_sl, gx_slT, gx_slF, gx_join, gx_joinT, gx_tup, gx_tupT, gx_tupF, gx_lst, gx_lstT, gx_lstF, gx_all, gx_notInK, Mn.atI_last, Mn.ixN_last, Mn.atI_0, gx_mulL, gx_mulT, ux_isB, ux_notB, ux_isNN, ux_notNN, ux_isSN, ux_notSN, ux_isIN, ux_notIN, ux_isTN, ux_notTN, ux_isRN, ux_notRN, gx_sort, gx_dct, Mn.atI_1, Mn.atI_2, Mn.atI_3, List.length_map, set_lastM, set_lastL, List.getLast?_concat, List.dropLast_concat, gcn_str, gcn_int, gcn_bl, gcn_non, gcs_str, gcs_int, gcs_bl, gcs_non, gcn_tup, gcs_tup, gcn_lst, gcn_lst1, gcn_lst2, refsL_strs, refsL_nil, refsL_s, refsL_i, refsL_n, refsL_b, refsL_t, refsL_app, ux_slS, ux_addS, ux_iaddS, ux_lenS, ux_ixS, ux_inT2, ux_inT3, findK_nil, findK_cons, putKD_nil, putKD_cons, gx_rvL, gx_rvF, gx_rvT, gx_rvS, gx_repl, ws_no, ux_neB, ux_eqB, txsOf_map, ws_forE, keyOf_str, keyOf_int, joinTx_nil, List.foldl_cons, List.foldl_nil]; repeat (refine And.intro (by omega) ?_))
      refine put_skip hx hlt al fun v9 => ?_
      obtain ⟨acc', rfl, s1, s2, s3⟩ := skip (fun c inn h => nomatch h)
      exact ⟨x.length - (n + skipN (x.drop n)), by omega, _, n + skipN (x.drop n), Ri, _, _, _, rfl, rfl, hRi, by omega, rfl, by omega, s1, s2, s3⟩
    | some p =>
      obtain ⟨c, inn⟩ := p
      obtain ⟨il, hc⟩ := ask_len ha
      have ee : askD n (some (c, inn)) = .tup [.str [c], .str inn, .int ((n + inn.length + 4 : Nat) : Int)] := rfl
      rw [ee]
      ((try dsimp only); try simp -implicitDefEqProofs only [ws_seq, ws_set, ws_par2, ws_exp, ws_ret, ws_if, ws_tg, ws_nil, ws_aug, thenR_nx, thenR_ret, thenR_bk, thenR_ct, wp_var, wp_con, wp_bin, wp_un, wp_nil, wp_cons, wp_fn, wp_test, wp_and, wp_or, wp_not, wq_andV, wq_orV, bIf_bl, ite_both, ux_mulST, wp_notV, wp_if, wq_chain, wp_call, wp_sl, wp_nopart, wp_part, wp_bm, wp_iter, wp_rng1, wp_rng2, wp_lc, wp_bind, wp_ok, wp_up, Tg.set, setsD, List.getElem?_cons_zero, List.getElem?_cons_succ, List.set_cons_zero, List.set_cons_succ, List.length_cons, List.length_nil, and_self, if_true, reduceCtorEq, Nat.reduceAdd, List.map_cons, List.map_nil, Nat.reduceSub, List.replicate_succ, List.replicate_zero, List.cons_append, List.nil_append, ux_add, ux_iadd, ux_sub, ux_mul, ux_div, ux_mod, ux_pow, ux_neg, ux_eqI, ux_neI, ux_eqS, ux_neS, ux_lt, ux_le, ux_gt, ux_ge, ux_abs, ux_max, ux_min, ux_intI, ux_intB, ux_lst, ux_tup, mulOk_iff, true_or, or_true, ux_lenT, ux_lenF, ux_t0, ux_t1, ux_t2, ux_t3, ux_t4, ux_t5, isB, decide_eq_true_eq, Bool.not_eq_true', decide_eq_false_iff_not, i62, true_and, and_true, if_false, Int.reduceLT, Int.reduceLE, Int.reduceAbs, Nat.reduceLT, Nat.reduceLeDiff, Nat.reducePow, Int.reducePow, Int.reduceToNat, Int.reduceNeg, Nat.reduceEqDiff, or_self, not_true, not_false_eq_true, Bool.not_true, Bool.not_false, decide_true, decide_false, Bool.false_eq_true, len_map1, app2, app3, List.append_assoc, List.length_append, Nat.zero_add, Nat.add_zero, get_newc, get_new1, get_new2, get_new3, set_newc, set_new1, set_new2, it_str, it_tup, it_frl, gx_it, gx_isLs, gx_isTx, gx_len, gx_ixI, gx_ixS, gx_getI, gx_getS, ws_storeP, ws_aug2P, gx_stI, gx_stS, gx_app, gx_pop, gx_rev, gx_cat, gx_catT, gx_sl, gx_slT, gx_slF, gx_join, gx_joinT, gx_tup, gx_tupT, gx_tupF, gx_lst, gx_lstT, gx_lstF, gx_all, gx_notInK, Mn.atI_last, Mn.ixN_last, Mn.atI_0, gx_mulL, gx_mulT, ux_isB, ux_notB, ux_isNN, ux_notNN, ux_isSN, ux_notSN, ux_isIN, ux_notIN, ux_isTN, ux_notTN, ux_isRN, ux_notRN, gx_sort, gx_dct, Mn.atI_1, Mn.atI_2, Mn.atI_3, List.length_map, set_lastM, set_lastL, List.getLast?_concat, List.dropLast_concat, gcn_str, gcn_int, gcn_bl, gcn_non, gcs_str, gcs_int, gcs_bl, gcs_non, gcn_tup, gcs_tup, gcn_lst, gcn_lst1, gcn_lst2, refsL_strs, refsL_nil, refsL_s, refsL_i, refsL_n, refsL_b, refsL_t, refsL_app, ux_slS, ux_addS, ux_iaddS, ux_lenS, ux_ixS, ux_inT2, ux_inT3, findK_nil, findK_cons, putKD_nil, putKD_cons, gx_rvL, gx_rvF, gx_rvT, gx_rvS, gx_repl, ws_no, ux_neB, ux_eqB, txsOf_map, ws_forE, keyOf_str, keyOf_int, joinTx_nil, List.foldl_cons, List.foldl_nil, pD, pks, Pk.get, List.drop_zero, List.drop_succ_cons, List.take_succ_cons, List.take_zero, hbA]; repeat (refine And.intro (by omega) ?_))
      refine told_by_then (a := m.length) (b := b) (R := Ri) (S := S) (A := A) get_newc (hbA _) hRi (by omega) (by have := K.l; omega) (by omega) ?_
      rw [set_newc]
      have tk := told_ok S A (c := c) (inn := inn) hRi
      have tl := fun t h => told_len K hRi (c := c) (inn := inn) (t := t) h
      have tn := told_none (S := S) (A := A) (c := c) (inn := inn) (R := Ri)
      rcases ht : told S A c inn Ri with ⟨o, R'⟩
      rw [ht] at tk tl tn
      dsimp only at tk tl tn ⊢
      cases o with
      | none =>
        obtain rfl : R' = Ri := tn rfl
        ((try dsimp only); try simp -implicitDefEqProofs only [ws_seq, ws_set, ws_par2, ws_exp, ws_ret, ws_if, ws_tg, ws_nil, ws_aug, thenR_nx, thenR_ret, thenR_bk, thenR_ct, wp_var, wp_con, wp_bin, wp_un, wp_nil, wp_cons, wp_fn, wp_test, wp_and, wp_or, wp_not, wq_andV, wq_orV, bIf_bl, ite_both, ux_mulST, wp_notV, wp_if, wq_chain, wp_call, wp_sl, wp_nopart, wp_part, wp_bm, wp_iter, wp_rng1, wp_rng2, wp_lc, wp_bind, wp_ok, wp_up, Tg.set, setsD, List.getElem?_cons_zero, List.getElem?_cons_succ, List.set_cons_zero, List.set_cons_succ, List.length_cons, List.length_nil, and_self, if_true, reduceCtorEq, Nat.reduceAdd, List.map_cons, List.map_nil, Nat.reduceSub, List.replicate_succ, List.replicate_zero, List.cons_append, List.nil_append, ux_add, ux_iadd, ux_sub, ux_mul, ux_div, ux_mod, ux_pow, ux_neg, ux_eqI, ux_neI, ux_eqS, ux_neS, ux_lt, ux_le, ux_gt, ux_ge, ux_abs, ux_max, ux_min, ux_intI, ux_intB, ux_lst, ux_tup, mulOk_iff, true_or, or_true, ux_lenT, ux_lenF, ux_t0, ux_t1, ux_t2, ux_t3, ux_t4, ux_t5, isB, decide_eq_true_eq, Bool.not_eq_true', decide_eq_false_iff_not, i62, true_and, and_true, if_false, Int.reduceLT, Int.reduceLE, Int.reduceAbs, Nat.reduceLT, Nat.reduceLeDiff, Nat.reducePow, Int.reducePow, Int.reduceToNat, Int.reduceNeg, Nat.reduceEqDiff, or_self, not_true, not_false_eq_true, Bool.not_true, Bool.not_false, decide_true, decide_false, Bool.false_eq_true, len_map1, app2, app3, List.append_assoc, List.length_append, Nat.zero_add, Nat.add_zero, get_newc, get_new1, get_new2, get_new3, set_newc, set_new1, set_new2, it_str, it_tup, it_frl, gx_it, gx_isLs, gx_isTx, gx_len, gx_ixI, gx_ixS, gx_getI, gx_getS, ws_storeP, ws_aug2P, gx_stI, gx_stS, gx_app, gx_pop, gx_rev, gx_cat, gx_catT, gx_sl, gx_slT, gx_slF, gx_join, gx_joinT, gx_tup, gx_tupT, gx_tupF, gx_lst, gx_lstT, gx_lstF, gx_all, gx_notInK, Mn.atI_last, Mn.ixN_last, Mn.atI_0, gx_mulL, gx_mulT, ux_isB, ux_notB, ux_isNN, ux_notNN, ux_isSN, ux_notSN, ux_isIN, ux_notIN, ux_isTN, ux_notTN, ux_isRN, ux_notRN, gx_sort, gx_dct, Mn.atI_1, Mn.atI_2, Mn.atI_3, List.length_map, set_lastM, set_lastL, List.getLast?_concat, List.dropLast_concat, gcn_str, gcn_int, gcn_bl, gcn_non, gcs_str, gcs_int, gcs_bl, gcs_non, gcn_tup, gcs_tup, gcn_lst, gcn_lst1, gcn_lst2, refsL_strs, refsL_nil, refsL_s, refsL_i, refsL_n, refsL_b, refsL_t, refsL_app, ux_slS, ux_addS, ux_iaddS, ux_lenS, ux_ixS, ux_inT2, ux_inT3, findK_nil, findK_cons, putKD_nil, putKD_cons, gx_rvL, gx_rvF, gx_rvT, gx_rvS, gx_repl, ws_no, ux_neB, ux_eqB, txsOf_map, ws_forE, keyOf_str, keyOf_int, joinTx_nil, List.foldl_cons, List.foldl_nil]; repeat (refine And.intro (by omega) ?_))
        refine put_skip hx hlt al fun v9 => ?_
        obtain ⟨acc', rfl, s1, s2, s3⟩ := skip (fun c' inn' h => by
          rw [ha] at h
          cases h
          rw [ht])
        exact ⟨x.length - (n + skipN (x.drop n)), by omega, _, n + skipN (x.drop n), R', _, _, _, rfl, rfl, hRi, by omega, rfl, by omega, s1, s2, s3⟩
      | some t =>
        have e := putAll_told (told S A) ha ht
        rw [List.drop_drop] at e
        have t3 := tl t rfl
        ((try dsimp only); try simp -implicitDefEqProofs only [ws_seq, ws_set, ws_par2, ws_exp, ws_ret, ws_if, ws_tg, ws_nil, ws_aug, thenR_nx, thenR_ret, thenR_bk, thenR_ct, wp_var, wp_con, wp_bin, wp_un, wp_nil, wp_cons, wp_fn, wp_test, wp_and, wp_or, wp_not, wq_andV, wq_orV, bIf_bl, ite_both, ux_mulST, wp_notV, wp_if, wq_chain, wp_call, wp_sl, wp_nopart, wp_part, wp_bm, wp_iter, wp_rng1, wp_rng2, wp_lc, wp_bind, wp_ok, wp_up, Tg.set, setsD, List.getElem?_cons_zero, List.getElem?_cons_succ, List.set_cons_zero, List.set_cons_succ, List.length_cons, List.length_nil, and_self, if_true, reduceCtorEq, Nat.reduceAdd, List.map_cons, List.map_nil, Nat.reduceSub, List.replicate_succ, List.replicate_zero, List.cons_append, List.nil_append, ux_add, ux_iadd, ux_sub, ux_mul, ux_div, ux_mod, ux_pow, ux_neg, ux_eqI, ux_neI, ux_eqS, ux_neS, ux_lt, ux_le, ux_gt, ux_ge, ux_abs, ux_max, ux_min, ux_intI, ux_intB, ux_lst, ux_tup, mulOk_iff, true_or, or_true, ux_lenT, ux_lenF, ux_t0, ux_t1, ux_t2, ux_t3, ux_t4, ux_t5, isB, decide_eq_true_eq, Bool.not_eq_true', decide_eq_false_iff_not, i62, true_and, and_true, if_false, Int.reduceLT, Int.reduceLE, Int.reduceAbs, Nat.reduceLT, Nat.reduceLeDiff, Nat.reducePow, Int.reducePow, Int.reduceToNat, Int.reduceNeg, Nat.reduceEqDiff, or_self, not_true, not_false_eq_true, Bool.not_true, Bool.not_false, decide_true, decide_false, Bool.false_eq_true, len_map1, app2, app3, List.append_assoc, List.length_append, Nat.zero_add, Nat.add_zero, get_newc, get_new1, get_new2, get_new3, set_newc, set_new1, set_new2, it_str, it_tup, it_frl, gx_it, gx_isLs, gx_isTx, gx_len, gx_ixI, gx_ixS, gx_getI, gx_getS, ws_storeP, ws_aug2P, gx_stI, gx_stS, gx_app, gx_pop, gx_rev, gx_cat, gx_catT, gx_sl, gx_slT, gx_slF, gx_join, gx_joinT, gx_tup, gx_tupT, gx_tupF, gx_lst, gx_lstT, gx_lstF, gx_all, gx_notInK, Mn.atI_last, Mn.ixN_last, Mn.atI_0, gx_mulL, gx_mulT, ux_isB, ux_notB, ux_isNN, ux_notNN, ux_isSN, ux_notSN, ux_isIN, ux_notIN, ux_isTN, ux_notTN, ux_isRN, ux_notRN, gx_sort, gx_dct, Mn.atI_1, Mn.atI_2, Mn.atI_3, List.length_map, set_lastM, set_lastL, List.getLast?_concat, List.dropLast_concat, gcn_str, gcn_int, gcn_bl, gcn_non, gcs_str, gcs_int, gcs_bl, gcs_non, gcn_tup, gcs_tup, gcn_lst, gcn_lst1, gcn_lst2, refsL_strs, refsL_nil, refsL_s, refsL_i, refsL_n, refsL_b, refsL_t, refsL_app, ux_slS, ux_addS, ux_iaddS, ux_lenS, ux_ixS, ux_inT2, ux_inT3, findK_nil, findK_cons, putKD_nil, putKD_cons, gx_rvL, gx_rvF, gx_rvT, gx_rvS, gx_repl, ws_no, ux_neB, ux_eqB, txsOf_map, ws_forE, keyOf_str, keyOf_int, joinTx_nil, List.foldl_cons, List.foldl_nil]; repeat (refine And.intro (by omega) ?_))
        refine put_text (c := c) (inn := inn) (by omega) al t3 ?_
        refine ⟨x.length - (n + inn.length + 4), by omega, _, n + inn.length + 4, R', _, _, _, rfl, rfl, tk.1, by omega, rfl, by omega, ?_, ?_, ?_⟩
        · rw [List.length_append]
          omega
        · rw [← t1, e, List.append_assoc, Nat.add_assoc]
        · rw [← t2, e, Nat.add_assoc]
  · rw [if_neg (by omega)]
    have e : n = x.length := by omega
    subst e
    rw [List.drop_length, putAll_nil] at t1 t2
    rw [List.append_nil] at t1
    unfold r1_put_in
    ((try dsimp only); try simp -implicitDefEqProofs only [ws_seq, ws_set, ws_par2, ws_exp, ws_ret, ws_if, ws_tg, ws_nil, ws_aug, thenR_nx, thenR_ret, thenR_bk, thenR_ct, wp_var, wp_con, wp_bin, wp_un, wp_nil, wp_cons, wp_fn, wp_test, wp_and, wp_or, wp_not, wq_andV, wq_orV, bIf_bl, ite_both, ux_mulST, wp_notV, wp_if, wq_chain, wp_call, wp_sl, wp_nopart, wp_part, wp_bm, wp_iter, wp_rng1, wp_rng2, wp_lc, wp_bind, wp_ok, wp_up, Tg.set, setsD, List.getElem?_cons_zero, List.getElem?_cons_succ, List.set_cons_zero, List.set_cons_succ, List.length_cons, List.length_nil, and_self, if_true, reduceCtorEq, Nat.reduceAdd, List.map_cons, List.map_nil, Nat.reduceSub, List.replicate_succ, List.replicate_zero, List.cons_append, List.nil_append, ux_add, ux_iadd, ux_sub, ux_mul, ux_div, ux_mod, ux_pow, ux_neg, ux_eqI, ux_neI, ux_eqS, ux_neS, ux_lt, ux_le, ux_gt, ux_ge, ux_abs, ux_max, ux_min, ux_intI, ux_intB, ux_lst, ux_tup, mulOk_iff, true_or, or_true, ux_lenT, ux_lenF, ux_t0, ux_t1, ux_t2, ux_t3, ux_t4, ux_t5, isB, decide_eq_true_eq, Bool.not_eq_true', decide_eq_false_iff_not, i62, true_and, and_true, if_false, Int.reduceLT, Int.reduceLE, Int.reduceAbs, Nat.reduceLT, Nat.reduceLeDiff, Nat.reducePow, Int.reducePow, Int.reduceToNat, Int.reduceNeg, Nat.reduceEqDiff, or_self, not_true, not_false_eq_true, Bool.not_true, Bool.not_false, decide_true, decide_false, Bool.false_eq_true, len_map1, app2, app3, List.append_assoc, List.length_append, Nat.zero_add, Nat.add_zero, get_newc, get_new1, get_new2, get_new3, set_newc, set_new1, set_new2, it_str, it_tup, it_frl, gx_it, gx_isLs, gx_isTx, gx_len, gx_ixI, gx_ixS, gx_getI, gx_getS, ws_storeP, ws_aug2P, gx_stI, gx_stS, gx_app, gx_pop, gx_rev, gx_cat, gx_catT, gx_sl, gx_slT, gx_slF, gx_join, gx_joinT, gx_tup, gx_tupT, gx_tupF, gx_lst, gx_lstT, gx_lstF, gx_all, gx_notInK, Mn.atI_last, Mn.ixN_last, Mn.atI_0, gx_mulL, gx_mulT, ux_isB, ux_notB, ux_isNN, ux_notNN, ux_isSN, ux_notSN, ux_isIN, ux_notIN, ux_isTN, ux_notTN, ux_isRN, ux_notRN, gx_sort, gx_dct, Mn.atI_1, Mn.atI_2, Mn.atI_3, List.length_map, set_lastM, set_lastL, List.getLast?_concat, List.dropLast_concat, gcn_str, gcn_int, gcn_bl, gcn_non, gcs_str, gcs_int, gcs_bl, gcs_non, gcn_tup, gcs_tup, gcn_lst, gcn_lst1, gcn_lst2, refsL_strs, refsL_nil, refsL_s, refsL_i, refsL_n, refsL_b, refsL_t, refsL_app, ux_slS, ux_addS, ux_iaddS, ux_lenS, ux_ixS, ux_inT2, ux_inT3, findK_nil, findK_cons, putKD_nil, putKD_cons, gx_rvL, gx_rvF, gx_rvT, gx_rvS, gx_repl, ws_no, ux_neB, ux_eqB, txsOf_map, ws_forE, keyOf_str, keyOf_int, joinTx_nil, List.foldl_cons, List.foldl_nil, cut_to (show (0 : Int) ≤ 200 by omega)]; repeat (refine And.intro (by omega) ?_))
    rw [gc_tup2 (regD_refs _) rfl]
    unfold putF at q
    rw [← t1, ← t2] at q
    exact q
end Lw
end

section
namespace Lw
open Mn
theorem put_char {T : Tell} {c : Nat} {y : Mn.Tx} {R : Regs} (hc : c ≠ 92) : putAll T (c :: y) R = (c :: (putAll T y R).1, (putAll T y R).2) := by
  have ha : askS (c :: y) = none := by
    unfold askS
    split
    · rename_i h
      cases h
      exact absurd rfl hc
    · rfl
  have hs : skipN (c :: y) = 1 := by
    unfold skipN
    rw [if_neg]
    intro z
    cases y with
    | nil => simp at z
    | cons d y =>
      simp at z
      exact hc z.1
  have e := putAll_skip T (y := c :: y) (R := R) (by simp) (fun c' inn h => by rw [ha] at h; cases h)
  rw [hs] at e
  exact e
theorem put_plain {T : Tell} {R : Regs} (y : Mn.Tx) : ∀ {w : Mn.Tx}, (∀ c ∈ w, c ≠ 92) → putAll T (w ++ y) R = (w ++ (putAll T y R).1, (putAll T y R).2)
  | [], _ => rfl
  | c :: w, h => by
    show putAll T (c :: (w ++ y)) R = _
    rw [put_char (h c List.mem_cons_self), put_plain y fun d hd => h d (List.mem_cons_of_mem _ hd)]
    rfl
theorem tw_shut {inn y : Mn.Tx} (hi : ∀ c ∈ inn, c ≠ 41) : (inn ++ 41 :: y).takeWhile (· != 41) = inn := by
  rw [List.takeWhile_append_of_pos (fun a ha => by simpa using hi a ha)]
  simp
theorem ask_piece {inn y : Mn.Tx} {c : Nat} (hc : c = 82 ∨ c = 83 ∨ c = 65) (hi : ∀ d ∈ inn, d ≠ 41) : askS (92 :: c :: 40 :: (inn ++ 41 :: y)) = some (c, inn) := by
  show (if (c = 82 ∨ c = 83 ∨ c = 65) ∧ 41 ∈ inn ++ 41 :: y then some (c, (inn ++ 41 :: y).takeWhile (· != 41)) else none) = _
  rw [if_pos ⟨hc, List.mem_append_right _ List.mem_cons_self⟩, tw_shut hi]
theorem put_ask {T : Tell} {inn t y : Mn.Tx} {c : Nat} {R R' : Regs} (hc : c = 82 ∨ c = 83 ∨ c = 65) (hi : ∀ d ∈ inn, d ≠ 41) (ht : T c inn R = (some t, R')) :
    putAll T (92 :: c :: 40 :: (inn ++ 41 :: y)) R = (t ++ (putAll T y R').1, (putAll T y R').2) := by
  rw [putAll_told T (ask_piece hc hi) ht]
  have e : (92 :: c :: 40 :: (inn ++ 41 :: y)).drop (inn.length + 4) = y := by
    show (inn ++ 41 :: y).drop (inn.length + 1) = y
    rw [← List.drop_drop, List.drop_left]
    rfl
  rw [e]
end Lw
end

section
namespace Lw
open PySem PySem.Spec PyProof.Rows L2 Mn
set_option maxHeartbeats 2000000
/-- data with dicts in it as a whole: what repr shows -/
structure ShX (m : MH) (k w n : Nat) (d : D) (p : PyData) : Prop where
  py : toPyX m (n + 1) d = some p
  sh : p.showable = true
  lv : p.leavesShort 13 = true
  dp : p.depth ≤ k
  bk : p.bulk ≤ w
structure ShXs (m : MH) (k w n : Nat) (ds : List D) (ps : List PyData) : Prop where
  py : mapX (toPyX m (n + 1)) ds = some ps
  sh : PyData.showableAll ps = true
  lv : PyData.leavesShortAll 13 ps = true
  dp : PyData.depthAll ps ≤ k
  bk : PyData.bulkAll ps ≤ w
structure ShXk (m : MH) (k w n : Nat) (ds : List (DK × D)) (ps : List (PyData × PyData)) : Prop where
  py : mapK (toPyX m (n + 1)) ds = some ps
  sh : PyData.showableKv ps = true
  lv : PyData.leavesShortKv 13 ps = true
  dp : PyData.depthKv ps ≤ k
  bk : PyData.bulkKv ps ≤ w
section
variable {m : MH} {k w n : Nat}
theorem ShX.int {i : Int} (h1 : -999999999999 ≤ i) (h2 : i ≤ 999999999999) : ShX m k w n (.int i) (.int i) :=
  have h := Sh.int (m := m) (k := k) (w := w) h1 h2
  ⟨rfl, h.sh, h.lv, h.dp, h.bk⟩
theorem ShX.str {x : Mn.Tx} (h : ∀ c ∈ x, c < 0x110000) (hw : x.length ≤ w) : ShX m k w n (.str x) (.str (tx x)) :=
  have h := Sh.str (m := m) (k := k) (w := w) h hw
  ⟨rfl, h.sh, h.lv, h.dp, h.bk⟩
theorem ShXs.nil : ShXs m k w n [] [] := ⟨rfl, rfl, rfl, Nat.zero_le _, Nat.zero_le _⟩
theorem ShXs.cons {w1 w2 : Nat} {d : D} {ds : List D} {p : PyData} {ps : List PyData} (h : ShX m k w1 n d p) (t : ShXs m k w2 n ds ps) (hw : w1 + 1 + w2 ≤ w) : ShXs m k w n (d :: ds) (p :: ps) := by
  refine ⟨?_, ?_, ?_, Nat.max_le.mpr ⟨h.dp, t.dp⟩, ?_⟩
  · unfold mapX
    rw [h.py, t.py]
  · show (p.showable && PyData.showableAll ps) = true
    rw [h.sh, t.sh]
    rfl
  · show (p.leavesShort 13 && PyData.leavesShortAll 13 ps) = true
    rw [h.lv, t.lv]
    rfl
  · have h1 := h.bk
    have h2 := t.bk
    simp only [PyData.bulkAll]
    omega
theorem ShXk.nil : ShXk m k w n [] [] := ⟨rfl, rfl, rfl, Nat.zero_le _, Nat.zero_le _⟩
theorem ShXk.cons {w1 w2 w3 : Nat} {x : Mn.Tx} {d : D} {ds : List (DK × D)} {p : PyData} {ps : List (PyData × PyData)} (hx : ∀ c ∈ x, c < 0x110000) (hl : x.length ≤ w3) (h : ShX m k w1 n d p) (t : ShXk m k w2 n ds ps) (hw : w3 + w1 + 2 + w2 ≤ w) :
    ShXk m k w n ((.inr x, d) :: ds) ((.str (tx x), p) :: ps) := by
  have q := ShX.str (m := m) (k := k) (w := w3) (n := n) hx hl
  refine ⟨?_, ?_, ?_, Nat.max_le.mpr ⟨Nat.max_le.mpr ⟨q.dp, h.dp⟩, t.dp⟩, ?_⟩
  · unfold mapK
    rw [h.py, t.py]
    rfl
  · show ((PyData.showable (.str (tx x)) && p.showable) && PyData.showableKv ps) = true
    rw [q.sh, h.sh, t.sh]
    rfl
  · show ((PyData.leavesShort 13 (.str (tx x)) && p.leavesShort 13) && PyData.leavesShortKv 13 ps) = true
    rw [q.lv, h.lv, t.lv]
    rfl
  · have h1 := h.bk
    have h2 := t.bk
    have h3 := q.bk
    simp only [PyData.bulkKv]
    omega
theorem ShX.tup {ds : List D} {ps : List PyData} (h : ShXs m k w n ds ps) : ShX m (k + 1) w (n + 1) (.tup ds) (.tuple ps) := by
  refine ⟨?_, h.sh, h.lv, Nat.succ_le_succ h.dp, h.bk⟩
  show (mapX (toPyX m (n + 1)) ds).map PyData.tuple = _
  rw [h.py]
  rfl
theorem ShX.dct {a : Nat} {ds : List (DK × D)} {ps : List (PyData × PyData)} (hm : m[a]? = some (.dct ds)) (h : ShXk m k w n ds ps) : ShX m (k + 1) w (n + 1) (.ref a) (.dict ps) := by
  refine ⟨?_, h.sh, h.lv, Nat.succ_le_succ h.dp, h.bk⟩
  show (match m[a]? with | some (.dct kvs) => (mapK (toPyX m (n + 1)) kvs).map PyData.dict | _ => none) = _
  rw [hm]
  dsimp only
  rw [h.py]
  rfl
end
end Lw
end

section
namespace Lw
open PySem PySem.Spec PyProof.Rows L2 Mn
set_option maxHeartbeats 2000000
section
variable {m : MH}
theorem toPy_dct {a : Nat} {ds : List (DK × D)} (hm : m[a]? = some (.dct ds)) : ∀ n, toPy m n (.ref a) = none
  | 0 => rfl
  | n + 1 => by
    unfold toPy
    rw [hm]
theorem toPys_one {n : Nat} {d : D} {ds : List D} (h : toPy m n d = none) : toPys m (n + 1) (d :: ds) = none := by
  unfold toPys
  rw [h]
theorem toPys_two {n : Nat} {d : D} {ds : List D} (h : toPys m n ds = none) : toPys m (n + 1) (d :: ds) = none := by
  unfold toPys
  rw [h]
  cases toPy m n d <;> rfl
theorem toPy_tup {n : Nat} {xs : List D} (h : toPys m n xs = none) : toPy m (n + 1) (.tup xs) = none := by
  show (toPys m n xs).map PyData.tuple = none
  rw [h]
  rfl
/-- repr of data with dicts -/
theorem ux_reprX {d : D} {p : PyData} {k w : Nat} {P : D → MH → Prop} (h0 : ∀ n, toPy m (n + 10) d = none) (h : ShX m k w 49 d p) (hk : k ≤ 60) (hw : w ≤ 400000) : wp (up (reprF [d] m)) P = P (.str (rT p)) m := by
  have e0 : toPy m pyF d = none := by
    rw [pyF_eq]
    exact h0 999990
  have hs : shownOkX p = true := by
    unfold shownOkX
    have h1 := PyData.shown_le_bulk 13 (by omega) p h.lv
    have h2 := h.bk
    have e : sizeLine = 16777216 := rfl
    rw [h.sh, decide_eq_true (by have := h.dp; omega), decide_eq_true (by omega)]
    rfl
  show wp (up (match toPy m pyF d with
    | some p => if shownOk p then some (.str p.shown.cps.toList, m) else none
    | none => match toPyX m 50 d with
      | some p => if shownOkX p then some (.str p.shown.cps.toList, m) else none
      | none => none)) P = _
  rw [e0]
  dsimp only
  rw [h.py]
  dsimp only
  rw [hs]
  rfl
theorem ux_neSameT {xs ys : List D} {P : D → MH → Prop} (h0 : ∀ n, toPy m (n + 10) (.tup xs) = none) (h : same0 m (.tup xs) (.tup ys) = true) : wp (up (neD (.tup xs) (.tup ys) m)) P = P (.bl false) m := by
  have e0 : toPy m pyF (.tup xs) = none := by
    rw [pyF_eq]
    exact h0 999990
  unfold neD eqD
  dsimp only
  rw [e0]
  dsimp only
  rw [h]
  rfl
theorem ux_neSameR {a b : Nat} {ds : List (DK × D)} {P : D → MH → Prop} (h0 : m[a]? = some (.dct ds)) (h : same0 m (.ref a) (.ref b) = true) : wp (up (neD (.ref a) (.ref b) m)) P = P (.bl false) m := by
  unfold neD eqD
  dsimp only
  rw [toPy_dct h0]
  dsimp only
  rw [h]
  rfl
theorem ux_eqSameT {xs ys : List D} {P : D → MH → Prop} (h0 : ∀ n, toPy m (n + 10) (.tup xs) = none) (h : same0 m (.tup xs) (.tup ys) = true) : wp (up (eqD (.tup xs) (.tup ys) m)) P = P (.bl true) m := by
  have e0 : toPy m pyF (.tup xs) = none := by
    rw [pyF_eq]
    exact h0 999990
  unfold eqD
  dsimp only
  rw [e0]
  dsimp only
  rw [h]
  rfl
theorem get_of_mem {α : Type} {n : Mn.Tx} {v : α} : ∀ {L : List (Mn.Tx × α)}, NoTwice L → (n, v) ∈ L → getL L n = some v
  | [], _, h => nomatch h
  | p :: L, nd, h => by
    have nd : (p.1 :: L.map (·.1)).Nodup := nd
    rw [List.nodup_cons] at nd
    show (if p.1 = n then some p.2 else getL L n) = some v
    rcases List.mem_cons.mp h with e | h
    · rw [← e, if_pos rfl]
    · rw [if_neg]
      · exact get_of_mem nd.2 h
      · intro z
        exact nd.1 (List.mem_map.mpr ⟨_, h, z.symm⟩)
theorem same_reg {n : Nat} (r : Reg) : sameD m (n + 2) (regD r) (regD r) = true := by
  unfold regD
  simp [sameD, allTwo]
theorem same_kvs {n : Nat} {R : Regs} (nd : NoTwice R) : (decide ((dK regD R).length = (dK regD R).length) && (dK regD R).all fun p => match findK (dK regD R) p.1 with
      | some u => sameD m (n + 2) p.2 u
      | none => false) = true := by
  rw [decide_eq_true rfl, Bool.true_and, List.all_eq_true]
  intro p hp
  unfold dK at hp
  obtain ⟨q, hq, rfl⟩ := List.mem_map.mp hp
  dsimp only
  rw [find_dK, get_of_mem nd (v := q.2) hq]
  exact same_reg q.2
theorem same_regs0 {a b : Nat} {R : Regs} (nd : NoTwice R) (ha : m[a]? = some (.dct (dK regD R))) (hb : m[b]? = some (.dct (dK regD R))) : same0 m (.ref a) (.ref b) = true := by
  unfold same0
  dsimp only
  rw [ha, hb]
  exact same_kvs (n := 48) nd
theorem same_regs {n a b : Nat} {R : Regs} (nd : NoTwice R) (ha : m[a]? = some (.dct (dK regD R))) (hb : m[b]? = some (.dct (dK regD R))) : sameD m (n + 3) (.ref a) (.ref b) = true := by
  unfold sameD
  dsimp only
  rw [ha, hb]
  exact same_kvs (n := n) nd
theorem same_pair {a b : Nat} {x : Mn.Tx} {R : Regs} (nd : NoTwice R) (ha : m[a]? = some (.dct (dK regD R))) (hb : m[b]? = some (.dct (dK regD R))) : same0 m (.tup [.str x, .ref a]) (.tup [.str x, .ref b]) = true := by
  have h1 : sameD m 50 (.str x) (.str x) = true := by simp [sameD]
  show (sameD m 50 (.str x) (.str x) && (sameD m 50 (.ref a) (.ref b) && true)) = true
  rw [h1, same_regs (n := 47) nd ha hb]
  rfl
theorem pair_none {a : Nat} {d : D} {ds : List (DK × D)} (ha : m[a]? = some (.dct ds)) (n : Nat) : toPy m (n + 10) (.tup [d, .ref a]) = none :=
  toPy_tup (n := n + 9) (toPys_two (n := n + 8) (toPys_one (n := n + 7) (toPy_dct ha _)))
theorem pair_none1 {a : Nat} {d : D} {ds : List (DK × D)} (ha : m[a]? = some (.dct ds)) (n : Nat) : toPy m (n + 10) (.tup [.ref a, d]) = none :=
  toPy_tup (n := n + 9) (toPys_one (n := n + 8) (toPy_dct ha _))
end
end Lw
end

section
namespace Mn
open PySem PySem.Spec PyProof.Rows L2
/-- a dict of one pair, written out -/
theorem disp_one {x : Tx} {gv : Fr → MH → Out D} {f : Fr} {m : MH} {P : D → MH → Prop} (h : wp (gv f (m ++ [.dct []])) fun y m2 => m2[m.length]? = some (.dct []) ∧ P (.ref m.length) (m2.set m.length (.dct [(.inr x, y)]))) :
    wp (gDisp [(gCon (.str x), gv)] f m) P := by
  unfold gDisp
  rw [wp_bind]
  unfold gPairs
  show wp ((gv f (m ++ [.dct []])).bind _) _
  rw [wp_bind]
  refine wp_mono h fun y m2 ⟨h1, h2⟩ => ?_
  show wp (match m2[m.length]? with | some (.dct []) => _ | _ => _) P
  rw [h1]
  exact h2
end Mn
end

section
namespace Mn
open PySem PySem.Spec PyProof.Rows L2
theorem disp_two {x z : Tx} {gv gw : Fr → MH → Out D} {f : Fr} {m : MH} {P : D → MH → Prop} (hx : x ≠ z)
    (h : wp (gv f (m ++ [.dct []])) fun y m2 => wp (gw f m2) fun u m3 => m3[m.length]? = some (.dct []) ∧ P (.ref m.length) (m3.set m.length (.dct [(.inr x, y), (.inr z, u)]))) :
    wp (gDisp [(gCon (.str x), gv), (gCon (.str z), gw)] f m) P := by
  unfold gDisp
  rw [wp_bind]
  unfold gPairs
  show wp ((gv f (m ++ [.dct []])).bind _) _
  rw [wp_bind]
  refine wp_mono h fun y m2 h => ?_
  unfold gPairs
  show wp (Out.bind (Out.bind (gw f m2) _) _) _
  rw [wp_bind, wp_bind]
  refine wp_mono h fun u m3 ⟨h1, h2⟩ => ?_
  show wp (match m3[m.length]? with | some (.dct []) => _ | _ => _) P
  rw [h1]
  have e : ([((Sum.inr x : DK), y), (.inr z, u)].foldl (fun acc kv => putKD acc kv.1 kv.2) []) = [(.inr x, y), (.inr z, u)] := by
    simp [putKD, hx]
  show wp (if _ then Out.ok _ _ else _) P
  rw [if_pos (by simp), e]
  exact h2
end Mn
end

section
namespace Lw
open PySem PySem.Spec PyProof.Rows L2 Mn
set_option maxHeartbeats 4000000
def onesT : List Mn.Tx := [[], [105], [105, 105], [105, 105, 105], [105, 118], [118], [118, 105], [118, 105, 105], [118, 105, 105, 105], [105, 120]]
theorem roman_ones : ∀ n, n < 40 → romanT n = repT (n / 10) [120] ++ onesT.getD (n % 10) [] := by decide +kernel
theorem law_form_then {m : MH} {v w : Int} {f : Mn.Tx} {P : D → MH → Prop} (hv : -1000000000 ≤ v ∧ v ≤ 1000000000) (hf : f = [49] ∨ f = [48, 49] ∨ f = [97] ∨ f = [105]) (q : P (.str (shownT v f)) m) : wp (f_v_law_form [.tup [.int v, .int w, .str f]] m) P := by
  apply wp_fnD
  unfold b_v_law_form
  have hl : (figs v.natAbs).length ≤ 10 := (figs_len (by decide)).mpr (by omega)
  have s1 : ∀ P, wp (up (strF [.int (if v < 0 then -v else v)] m)) P = P (.str (figs v.natAbs)) m := fun P => by
    rw [ux_strI (by split <;> omega) (by split <;> omega), strInt_abs]
  have hp := figs_pos v.natAbs
  have s2 : ∀ P, wp (up (strF [.int v] m)) P = P (.str (strInt v)) m := fun P => ux_strI (by omega) (by omega)
  rcases hf with rfl | rfl | rfl | rfl
  · ((try dsimp only); try simp -implicitDefEqProofs only [ws_seq, ws_set, ws_par2, ws_exp, ws_ret, ws_if, ws_tg, ws_nil, ws_aug, thenR_nx, thenR_ret, thenR_bk, thenR_ct, wp_var, wp_con, wp_bin, wp_un, wp_nil, wp_cons, wp_fn, wp_test, wp_and, wp_or, wp_not, wq_andV, wq_orV, bIf_bl, ite_both, ux_mulST, wp_notV, wp_if, wq_chain, wp_call, wp_sl, wp_nopart, wp_part, wp_bm, wp_iter, wp_rng1, wp_rng2, wp_lc, wp_bind, wp_ok, wp_up, Tg.set, setsD, List.getElem?_cons_zero, List.getElem?_cons_succ, List.set_cons_zero, List.set_cons_succ, List.length_cons, List.length_nil, and_self, if_true, reduceCtorEq, Nat.reduceAdd, List.map_cons, List.map_nil, Nat.reduceSub, List.replicate_succ, List.replicate_zero, List.cons_append, List.nil_append, ux_add, ux_iadd, ux_sub, ux_mul, ux_div, ux_mod, ux_pow, ux_neg, ux_eqI, ux_neI, ux_eqS, ux_neS, ux_lt, ux_le, ux_gt, ux_ge, ux_abs, ux_max, ux_min, ux_intI, ux_intB, ux_lst, ux_tup, mulOk_iff, true_or, or_true, ux_lenT, ux_lenF, ux_t0, ux_t1, ux_t2, ux_t3, ux_t4, ux_t5, isB, decide_eq_true_eq, Bool.not_eq_true', decide_eq_false_iff_not, i62, true_and, and_true, if_false, Int.reduceLT, Int.reduceLE, Int.reduceAbs, Nat.reduceLT, Nat.reduceLeDiff, Nat.reducePow, Int.reducePow, Int.reduceToNat, Int.reduceNeg, Nat.reduceEqDiff, or_self, not_true, not_false_eq_true, Bool.not_true, Bool.not_false, decide_true, decide_false, Bool.false_eq_true, len_map1, app2, app3, List.append_assoc, List.length_append, Nat.zero_add, Nat.add_zero, get_newc, get_new1, get_new2, get_new3, set_newc, set_new1, set_new2, it_str, it_tup, it_frl, gx_it, gx_isLs, gx_isTx, gx_len, gx_ixI, gx_ixS, gx_getI, gx_getS, ws_storeP, ws_aug2P, gx_stI, gx_stS, gx_app, gx_pop, gx_rev, gx_cat, gx_catT, gx_sl, gx_slT, gx_slF, gx_join, gx_joinT, gx_tup, gx_tupT, gx_tupF, gx_lst, gx_lstT, gx_lstF, gx_all, gx_notInK, Mn.atI_last, Mn.ixN_last, Mn.atI_0, gx_mulL, gx_mulT, ux_isB, ux_notB, ux_isNN, ux_notNN, ux_isSN, ux_notSN, ux_isIN, ux_notIN, ux_isTN, ux_notTN, ux_isRN, ux_notRN, gx_sort, gx_dct, Mn.atI_1, Mn.atI_2, Mn.atI_3, List.length_map, set_lastM, set_lastL, List.getLast?_concat, List.dropLast_concat, gcn_str, gcn_int, gcn_bl, gcn_non, gcs_str, gcs_int, gcs_bl, gcs_non, gcn_tup, gcs_tup, gcn_lst, gcn_lst1, gcn_lst2, refsL_strs, refsL_nil, refsL_s, refsL_i, refsL_n, refsL_b, refsL_t, refsL_app, ux_slS, ux_addS, ux_iaddS, ux_lenS, ux_ixS, ux_inT2, ux_inT3, findK_nil, findK_cons, putKD_nil, putKD_cons, gx_rvL, gx_rvF, gx_rvT, gx_rvS, gx_repl, ws_no, ux_neB, ux_eqB, txsOf_map, ws_forE, keyOf_str, keyOf_int, joinTx_nil, List.foldl_cons, List.foldl_nil, pD, pks, Pk.get, List.drop_zero, List.drop_succ_cons, List.take_succ_cons, List.take_zero, s2, List.cons.injEq, Nat.reduceEqDiff, false_and, and_false]; repeat (refine And.intro (by omega) ?_))
    simpa [shownT] using q
  · ((try dsimp only); try simp -implicitDefEqProofs only [ws_seq, ws_set, ws_par2, ws_exp, ws_ret, ws_if, ws_tg, ws_nil, ws_aug, thenR_nx, thenR_ret, thenR_bk, thenR_ct, wp_var, wp_con, wp_bin, wp_un, wp_nil, wp_cons, wp_fn, wp_test, wp_and, wp_or, wp_not, wq_andV, wq_orV, bIf_bl, ite_both, ux_mulST, wp_notV, wp_if, wq_chain, wp_call, wp_sl, wp_nopart, wp_part, wp_bm, wp_iter, wp_rng1, wp_rng2, wp_lc, wp_bind, wp_ok, wp_up, Tg.set, setsD, List.getElem?_cons_zero, List.getElem?_cons_succ, List.set_cons_zero, List.set_cons_succ, List.length_cons, List.length_nil, and_self, if_true, reduceCtorEq, Nat.reduceAdd, List.map_cons, List.map_nil, Nat.reduceSub, List.replicate_succ, List.replicate_zero, List.cons_append, List.nil_append, ux_add, ux_iadd, ux_sub, ux_mul, ux_div, ux_mod, ux_pow, ux_neg, ux_eqI, ux_neI, ux_eqS, ux_neS, ux_lt, ux_le, ux_gt, ux_ge, ux_abs, ux_max, ux_min, ux_intI, ux_intB, ux_lst, ux_tup, mulOk_iff, true_or, or_true, ux_lenT, ux_lenF, ux_t0, ux_t1, ux_t2, ux_t3, ux_t4, ux_t5, isB, decide_eq_true_eq, Bool.not_eq_true', decide_eq_false_iff_not, i62, true_and, and_true, if_false, Int.reduceLT, Int.reduceLE, Int.reduceAbs, Nat.reduceLT, Nat.reduceLeDiff, Nat.reducePow, Int.reducePow, Int.reduceToNat, Int.reduceNeg, Nat.reduceEqDiff, or_self, not_true, not_false_eq_true, Bool.not_true, Bool.not_false, decide_true, decide_false, Bool.false_eq_true, len_map1, app2, app3, List.append_assoc, List.length_append, Nat.zero_add, Nat.add_zero, get_newc, get_new1, get_new2, get_new3, set_newc, set_new1, set_new2, it_str, it_tup, it_frl, gx_it, gx_isLs, gx_isTx, gx_len, gx_ixI, gx_ixS, gx_getI, gx_getS, ws_storeP, ws_aug2P, gx_stI, gx_stS, gx_app, gx_pop, gx_rev, gx_cat, gx_catT, gx_sl, gx_slT, gx_slF, gx_join, gx_joinT, gx_tup, gx_tupT, gx_tupF, gx_lst, gx_lstT, gx_lstF, gx_all, gx_notInK, Mn.atI_last, Mn.ixN_last, Mn.atI_0, gx_mulL, gx_mulT, ux_isB, ux_notB, ux_isNN, ux_notNN, ux_isSN, ux_notSN, ux_isIN, ux_notIN, ux_isTN, ux_notTN, ux_isRN, ux_notRN, gx_sort, gx_dct, Mn.atI_1, Mn.atI_2, Mn.atI_3, List.length_map, set_lastM, set_lastL, List.getLast?_concat, List.dropLast_concat, gcn_str, gcn_int, gcn_bl, gcn_non, gcs_str, gcs_int, gcs_bl, gcs_non, gcn_tup, gcs_tup, gcn_lst, gcn_lst1, gcn_lst2, refsL_strs, refsL_nil, refsL_s, refsL_i, refsL_n, refsL_b, refsL_t, refsL_app, ux_slS, ux_addS, ux_iaddS, ux_lenS, ux_ixS, ux_inT2, ux_inT3, findK_nil, findK_cons, putKD_nil, putKD_cons, gx_rvL, gx_rvF, gx_rvT, gx_rvS, gx_repl, ws_no, ux_neB, ux_eqB, txsOf_map, ws_forE, keyOf_str, keyOf_int, joinTx_nil, List.foldl_cons, List.foldl_nil, pD, pks, Pk.get, List.drop_zero, List.drop_succ_cons, List.take_succ_cons, List.take_zero, s2, List.cons.injEq, Nat.reduceEqDiff, false_and, and_false]; repeat (refine And.intro (by omega) ?_))
    simp only [shownT, reduceCtorEq, List.cons.injEq, Nat.reduceEqDiff, false_and, if_false, and_false, true_and] at q
    by_cases hn : v < 0
    · rw [if_pos hn] at s1
      simp only [hn, if_true] at q ⊢
      by_cases h : -v < 10
      · rw [if_pos (by omega)] at q
        rw [if_pos h]
        ((try dsimp only); try simp -implicitDefEqProofs only [ws_seq, ws_set, ws_par2, ws_exp, ws_ret, ws_if, ws_tg, ws_nil, ws_aug, thenR_nx, thenR_ret, thenR_bk, thenR_ct, wp_var, wp_con, wp_bin, wp_un, wp_nil, wp_cons, wp_fn, wp_test, wp_and, wp_or, wp_not, wq_andV, wq_orV, bIf_bl, ite_both, ux_mulST, wp_notV, wp_if, wq_chain, wp_call, wp_sl, wp_nopart, wp_part, wp_bm, wp_iter, wp_rng1, wp_rng2, wp_lc, wp_bind, wp_ok, wp_up, Tg.set, setsD, List.getElem?_cons_zero, List.getElem?_cons_succ, List.set_cons_zero, List.set_cons_succ, List.length_cons, List.length_nil, and_self, if_true, reduceCtorEq, Nat.reduceAdd, List.map_cons, List.map_nil, Nat.reduceSub, List.replicate_succ, List.replicate_zero, List.cons_append, List.nil_append, ux_add, ux_iadd, ux_sub, ux_mul, ux_div, ux_mod, ux_pow, ux_neg, ux_eqI, ux_neI, ux_eqS, ux_neS, ux_lt, ux_le, ux_gt, ux_ge, ux_abs, ux_max, ux_min, ux_intI, ux_intB, ux_lst, ux_tup, mulOk_iff, true_or, or_true, ux_lenT, ux_lenF, ux_t0, ux_t1, ux_t2, ux_t3, ux_t4, ux_t5, isB, decide_eq_true_eq, Bool.not_eq_true', decide_eq_false_iff_not, i62, true_and, and_true, if_false, Int.reduceLT, Int.reduceLE, Int.reduceAbs, Nat.reduceLT, Nat.reduceLeDiff, Nat.reducePow, Int.reducePow, Int.reduceToNat, Int.reduceNeg, Nat.reduceEqDiff, or_self, not_true, not_false_eq_true, Bool.not_true, Bool.not_false, decide_true, decide_false, Bool.false_eq_true, len_map1, app2, app3, List.append_assoc, List.length_append, Nat.zero_add, Nat.add_zero, get_newc, get_new1, get_new2, get_new3, set_newc, set_new1, set_new2, it_str, it_tup, it_frl, gx_it, gx_isLs, gx_isTx, gx_len, gx_ixI, gx_ixS, gx_getI, gx_getS, ws_storeP, ws_aug2P, gx_stI, gx_stS, gx_app, gx_pop, gx_rev, gx_cat, gx_catT, gx_sl, gx_slT, gx_slF, gx_join, gx_joinT, gx_tup, gx_tupT, gx_tupF, gx_lst, gx_lstT, gx_lstF, gx_all, gx_notInK, Mn.atI_last, Mn.ixN_last, Mn.atI_0, gx_mulL, gx_mulT, ux_isB, ux_notB, ux_isNN, ux_notNN, ux_isSN, ux_notSN, ux_isIN, ux_notIN, ux_isTN, ux_notTN, ux_isRN, ux_notRN, gx_sort, gx_dct, Mn.atI_1, Mn.atI_2, Mn.atI_3, List.length_map, set_lastM, set_lastL, List.getLast?_concat, List.dropLast_concat, gcn_str, gcn_int, gcn_bl, gcn_non, gcs_str, gcs_int, gcs_bl, gcs_non, gcn_tup, gcs_tup, gcn_lst, gcn_lst1, gcn_lst2, refsL_strs, refsL_nil, refsL_s, refsL_i, refsL_n, refsL_b, refsL_t, refsL_app, ux_slS, ux_addS, ux_iaddS, ux_lenS, ux_ixS, ux_inT2, ux_inT3, findK_nil, findK_cons, putKD_nil, putKD_cons, gx_rvL, gx_rvF, gx_rvT, gx_rvS, gx_repl, ws_no, ux_neB, ux_eqB, txsOf_map, ws_forE, keyOf_str, keyOf_int, joinTx_nil, List.foldl_cons, List.foldl_nil, s1]; repeat (refine And.intro (by omega) ?_))
        exact ⟨by decide, by simp; omega, by simpa using q⟩
      · rw [if_neg (by omega)] at q
        rw [if_neg h]
        exact q
    · rw [if_neg hn] at s1
      simp only [hn, if_false] at q ⊢
      by_cases h : v < 10
      · rw [if_pos (by omega)] at q
        rw [if_pos h]
        ((try dsimp only); try simp -implicitDefEqProofs only [ws_seq, ws_set, ws_par2, ws_exp, ws_ret, ws_if, ws_tg, ws_nil, ws_aug, thenR_nx, thenR_ret, thenR_bk, thenR_ct, wp_var, wp_con, wp_bin, wp_un, wp_nil, wp_cons, wp_fn, wp_test, wp_and, wp_or, wp_not, wq_andV, wq_orV, bIf_bl, ite_both, ux_mulST, wp_notV, wp_if, wq_chain, wp_call, wp_sl, wp_nopart, wp_part, wp_bm, wp_iter, wp_rng1, wp_rng2, wp_lc, wp_bind, wp_ok, wp_up, Tg.set, setsD, List.getElem?_cons_zero, List.getElem?_cons_succ, List.set_cons_zero, List.set_cons_succ, List.length_cons, List.length_nil, and_self, if_true, reduceCtorEq, Nat.reduceAdd, List.map_cons, List.map_nil, Nat.reduceSub, List.replicate_succ, List.replicate_zero, List.cons_append, List.nil_append, ux_add, ux_iadd, ux_sub, ux_mul, ux_div, ux_mod, ux_pow, ux_neg, ux_eqI, ux_neI, ux_eqS, ux_neS, ux_lt, ux_le, ux_gt, ux_ge, ux_abs, ux_max, ux_min, ux_intI, ux_intB, ux_lst, ux_tup, mulOk_iff, true_or, or_true, ux_lenT, ux_lenF, ux_t0, ux_t1, ux_t2, ux_t3, ux_t4, ux_t5, isB, decide_eq_true_eq, Bool.not_eq_true', decide_eq_false_iff_not, i62, true_and, and_true, if_false, Int.reduceLT, Int.reduceLE, Int.reduceAbs, Nat.reduceLT, Nat.reduceLeDiff, Nat.reducePow, Int.reducePow, Int.reduceToNat, Int.reduceNeg, Nat.reduceEqDiff, or_self, not_true, not_false_eq_true, Bool.not_true, Bool.not_false, decide_true, decide_false, Bool.false_eq_true, len_map1, app2, app3, List.append_assoc, List.length_append, Nat.zero_add, Nat.add_zero, get_newc, get_new1, get_new2, get_new3, set_newc, set_new1, set_new2, it_str, it_tup, it_frl, gx_it, gx_isLs, gx_isTx, gx_len, gx_ixI, gx_ixS, gx_getI, gx_getS, ws_storeP, ws_aug2P, gx_stI, gx_stS, gx_app, gx_pop, gx_rev, gx_cat, gx_catT, gx_sl, gx_slT, gx_slF, gx_join, gx_joinT, gx_tup, gx_tupT, gx_tupF, gx_lst, gx_lstT, gx_lstF, gx_all, gx_notInK, Mn.atI_last, Mn.ixN_last, Mn.atI_0, gx_mulL, gx_mulT, ux_isB, ux_notB, ux_isNN, ux_notNN, ux_isSN, ux_notSN, ux_isIN, ux_notIN, ux_isTN, ux_notTN, ux_isRN, ux_notRN, gx_sort, gx_dct, Mn.atI_1, Mn.atI_2, Mn.atI_3, List.length_map, set_lastM, set_lastL, List.getLast?_concat, List.dropLast_concat, gcn_str, gcn_int, gcn_bl, gcn_non, gcs_str, gcs_int, gcs_bl, gcs_non, gcn_tup, gcs_tup, gcn_lst, gcn_lst1, gcn_lst2, refsL_strs, refsL_nil, refsL_s, refsL_i, refsL_n, refsL_b, refsL_t, refsL_app, ux_slS, ux_addS, ux_iaddS, ux_lenS, ux_ixS, ux_inT2, ux_inT3, findK_nil, findK_cons, putKD_nil, putKD_cons, gx_rvL, gx_rvF, gx_rvT, gx_rvS, gx_repl, ws_no, ux_neB, ux_eqB, txsOf_map, ws_forE, keyOf_str, keyOf_int, joinTx_nil, List.foldl_cons, List.foldl_nil, s1]; repeat (refine And.intro (by omega) ?_))
        exact ⟨by decide, by simp; omega, by simpa using q⟩
      · rw [if_neg (by omega)] at q
        rw [if_neg h]
        exact q
  · ((try dsimp only); try simp -implicitDefEqProofs only [ws_seq, ws_set, ws_par2, ws_exp, ws_ret, ws_if, ws_tg, ws_nil, ws_aug, thenR_nx, thenR_ret, thenR_bk, thenR_ct, wp_var, wp_con, wp_bin, wp_un, wp_nil, wp_cons, wp_fn, wp_test, wp_and, wp_or, wp_not, wq_andV, wq_orV, bIf_bl, ite_both, ux_mulST, wp_notV, wp_if, wq_chain, wp_call, wp_sl, wp_nopart, wp_part, wp_bm, wp_iter, wp_rng1, wp_rng2, wp_lc, wp_bind, wp_ok, wp_up, Tg.set, setsD, List.getElem?_cons_zero, List.getElem?_cons_succ, List.set_cons_zero, List.set_cons_succ, List.length_cons, List.length_nil, and_self, if_true, reduceCtorEq, Nat.reduceAdd, List.map_cons, List.map_nil, Nat.reduceSub, List.replicate_succ, List.replicate_zero, List.cons_append, List.nil_append, ux_add, ux_iadd, ux_sub, ux_mul, ux_div, ux_mod, ux_pow, ux_neg, ux_eqI, ux_neI, ux_eqS, ux_neS, ux_lt, ux_le, ux_gt, ux_ge, ux_abs, ux_max, ux_min, ux_intI, ux_intB, ux_lst, ux_tup, mulOk_iff, true_or, or_true, ux_lenT, ux_lenF, ux_t0, ux_t1, ux_t2, ux_t3, ux_t4, ux_t5, isB, decide_eq_true_eq, Bool.not_eq_true', decide_eq_false_iff_not, i62, true_and, and_true, if_false, Int.reduceLT, Int.reduceLE, Int.reduceAbs, Nat.reduceLT, Nat.reduceLeDiff, Nat.reducePow, Int.reducePow, Int.reduceToNat, Int.reduceNeg, Nat.reduceEqDiff, or_self, not_true, not_false_eq_true, Bool.not_true, Bool.not_false, decide_true, decide_false, Bool.false_eq_true, len_map1, app2, app3, List.append_assoc, List.length_append, Nat.zero_add, Nat.add_zero, get_newc, get_new1, get_new2, get_new3, set_newc, set_new1, set_new2, it_str, it_tup, it_frl, gx_it, gx_isLs, gx_isTx, gx_len, gx_ixI, gx_ixS, gx_getI, gx_getS, ws_storeP, ws_aug2P, gx_stI, gx_stS, gx_app, gx_pop, gx_rev, gx_cat, gx_catT, gx_sl, gx_slT, gx_slF, gx_join, gx_joinT, gx_tup, gx_tupT, gx_tupF, gx_lst, gx_lstT, gx_lstF, gx_all, gx_notInK, Mn.atI_last, Mn.ixN_last, Mn.atI_0, gx_mulL, gx_mulT, ux_isB, ux_notB, ux_isNN, ux_notNN, ux_isSN, ux_notSN, ux_isIN, ux_notIN, ux_isTN, ux_notTN, ux_isRN, ux_notRN, gx_sort, gx_dct, Mn.atI_1, Mn.atI_2, Mn.atI_3, List.length_map, set_lastM, set_lastL, List.getLast?_concat, List.dropLast_concat, gcn_str, gcn_int, gcn_bl, gcn_non, gcs_str, gcs_int, gcs_bl, gcs_non, gcn_tup, gcs_tup, gcn_lst, gcn_lst1, gcn_lst2, refsL_strs, refsL_nil, refsL_s, refsL_i, refsL_n, refsL_b, refsL_t, refsL_app, ux_slS, ux_addS, ux_iaddS, ux_lenS, ux_ixS, ux_inT2, ux_inT3, findK_nil, findK_cons, putKD_nil, putKD_cons, gx_rvL, gx_rvF, gx_rvT, gx_rvS, gx_repl, ws_no, ux_neB, ux_eqB, txsOf_map, ws_forE, keyOf_str, keyOf_int, joinTx_nil, List.foldl_cons, List.foldl_nil, pD, pks, Pk.get, List.drop_zero, List.drop_succ_cons, List.take_succ_cons, List.take_zero, s2, List.cons.injEq, Nat.reduceEqDiff, false_and, and_false]; repeat (refine And.intro (by omega) ?_))
    simp only [shownT, reduceCtorEq, List.cons.injEq, Nat.reduceEqDiff, false_and, if_false, and_false, true_and] at q
    by_cases h1 : 1 ≤ v
    · rw [if_pos h1]
      by_cases h2 : v ≤ 26
      · rw [if_pos h2]
        rw [if_pos (by omega)] at q
        rw [ux_ixS (by omega) (by show v - 1 < 26; omega) (by decide)]
        ((try dsimp only); try simp -implicitDefEqProofs only [ws_seq, ws_set, ws_par2, ws_exp, ws_ret, ws_if, ws_tg, ws_nil, ws_aug, thenR_nx, thenR_ret, thenR_bk, thenR_ct, wp_var, wp_con, wp_bin, wp_un, wp_nil, wp_cons, wp_fn, wp_test, wp_and, wp_or, wp_not, wq_andV, wq_orV, bIf_bl, ite_both, ux_mulST, wp_notV, wp_if, wq_chain, wp_call, wp_sl, wp_nopart, wp_part, wp_bm, wp_iter, wp_rng1, wp_rng2, wp_lc, wp_bind, wp_ok, wp_up, Tg.set, setsD, List.getElem?_cons_zero, List.getElem?_cons_succ, List.set_cons_zero, List.set_cons_succ, List.length_cons, List.length_nil, and_self, if_true, reduceCtorEq, Nat.reduceAdd, List.map_cons, List.map_nil, Nat.reduceSub, List.replicate_succ, List.replicate_zero, List.cons_append, List.nil_append, ux_add, ux_iadd, ux_sub, ux_mul, ux_div, ux_mod, ux_pow, ux_neg, ux_eqI, ux_neI, ux_eqS, ux_neS, ux_lt, ux_le, ux_gt, ux_ge, ux_abs, ux_max, ux_min, ux_intI, ux_intB, ux_lst, ux_tup, mulOk_iff, true_or, or_true, ux_lenT, ux_lenF, ux_t0, ux_t1, ux_t2, ux_t3, ux_t4, ux_t5, isB, decide_eq_true_eq, Bool.not_eq_true', decide_eq_false_iff_not, i62, true_and, and_true, if_false, Int.reduceLT, Int.reduceLE, Int.reduceAbs, Nat.reduceLT, Nat.reduceLeDiff, Nat.reducePow, Int.reducePow, Int.reduceToNat, Int.reduceNeg, Nat.reduceEqDiff, or_self, not_true, not_false_eq_true, Bool.not_true, Bool.not_false, decide_true, decide_false, Bool.false_eq_true, len_map1, app2, app3, List.append_assoc, List.length_append, Nat.zero_add, Nat.add_zero, get_newc, get_new1, get_new2, get_new3, set_newc, set_new1, set_new2, it_str, it_tup, it_frl, gx_it, gx_isLs, gx_isTx, gx_len, gx_ixI, gx_ixS, gx_getI, gx_getS, ws_storeP, ws_aug2P, gx_stI, gx_stS, gx_app, gx_pop, gx_rev, gx_cat, gx_catT, gx_sl, gx_slT, gx_slF, gx_join, gx_joinT, gx_tup, gx_tupT, gx_tupF, gx_lst, gx_lstT, gx_lstF, gx_all, gx_notInK, Mn.atI_last, Mn.ixN_last, Mn.atI_0, gx_mulL, gx_mulT, ux_isB, ux_notB, ux_isNN, ux_notNN, ux_isSN, ux_notSN, ux_isIN, ux_notIN, ux_isTN, ux_notTN, ux_isRN, ux_notRN, gx_sort, gx_dct, Mn.atI_1, Mn.atI_2, Mn.atI_3, List.length_map, set_lastM, set_lastL, List.getLast?_concat, List.dropLast_concat, gcn_str, gcn_int, gcn_bl, gcn_non, gcs_str, gcs_int, gcs_bl, gcs_non, gcn_tup, gcs_tup, gcn_lst, gcn_lst1, gcn_lst2, refsL_strs, refsL_nil, refsL_s, refsL_i, refsL_n, refsL_b, refsL_t, refsL_app, ux_slS, ux_addS, ux_iaddS, ux_lenS, ux_ixS, ux_inT2, ux_inT3, findK_nil, findK_cons, putKD_nil, putKD_cons, gx_rvL, gx_rvF, gx_rvT, gx_rvS, gx_repl, ws_no, ux_neB, ux_eqB, txsOf_map, ws_forE, keyOf_str, keyOf_int, joinTx_nil, List.foldl_cons, List.foldl_nil]; repeat (refine And.intro (by omega) ?_))
        exact q
      · rw [if_neg h2]
        rw [if_neg (by omega)] at q
        exact q
    · rw [if_neg h1]
      rw [if_neg (by omega)] at q
      exact q
  · ((try dsimp only); try simp -implicitDefEqProofs only [ws_seq, ws_set, ws_par2, ws_exp, ws_ret, ws_if, ws_tg, ws_nil, ws_aug, thenR_nx, thenR_ret, thenR_bk, thenR_ct, wp_var, wp_con, wp_bin, wp_un, wp_nil, wp_cons, wp_fn, wp_test, wp_and, wp_or, wp_not, wq_andV, wq_orV, bIf_bl, ite_both, ux_mulST, wp_notV, wp_if, wq_chain, wp_call, wp_sl, wp_nopart, wp_part, wp_bm, wp_iter, wp_rng1, wp_rng2, wp_lc, wp_bind, wp_ok, wp_up, Tg.set, setsD, List.getElem?_cons_zero, List.getElem?_cons_succ, List.set_cons_zero, List.set_cons_succ, List.length_cons, List.length_nil, and_self, if_true, reduceCtorEq, Nat.reduceAdd, List.map_cons, List.map_nil, Nat.reduceSub, List.replicate_succ, List.replicate_zero, List.cons_append, List.nil_append, ux_add, ux_iadd, ux_sub, ux_mul, ux_div, ux_mod, ux_pow, ux_neg, ux_eqI, ux_neI, ux_eqS, ux_neS, ux_lt, ux_le, ux_gt, ux_ge, ux_abs, ux_max, ux_min, ux_intI, ux_intB, ux_lst, ux_tup, mulOk_iff, true_or, or_true, ux_lenT, ux_lenF, ux_t0, ux_t1, ux_t2, ux_t3, ux_t4, ux_t5, isB, decide_eq_true_eq, Bool.not_eq_true', decide_eq_false_iff_not, i62, true_and, and_true, if_false, Int.reduceLT, Int.reduceLE, Int.reduceAbs, Nat.reduceLT, Nat.reduceLeDiff, Nat.reducePow, Int.reducePow, Int.reduceToNat, Int.reduceNeg, Nat.reduceEqDiff, or_self, not_true, not_false_eq_true, Bool.not_true, Bool.not_false, decide_true, decide_false, Bool.false_eq_true, len_map1, app2, app3, List.append_assoc, List.length_append, Nat.zero_add, Nat.add_zero, get_newc, get_new1, get_new2, get_new3, set_newc, set_new1, set_new2, it_str, it_tup, it_frl, gx_it, gx_isLs, gx_isTx, gx_len, gx_ixI, gx_ixS, gx_getI, gx_getS, ws_storeP, ws_aug2P, gx_stI, gx_stS, gx_app, gx_pop, gx_rev, gx_cat, gx_catT, gx_sl, gx_slT, gx_slF, gx_join, gx_joinT, gx_tup, gx_tupT, gx_tupF, gx_lst, gx_lstT, gx_lstF, gx_all, gx_notInK, Mn.atI_last, Mn.ixN_last, Mn.atI_0, gx_mulL, gx_mulT, ux_isB, ux_notB, ux_isNN, ux_notNN, ux_isSN, ux_notSN, ux_isIN, ux_notIN, ux_isTN, ux_notTN, ux_isRN, ux_notRN, gx_sort, gx_dct, Mn.atI_1, Mn.atI_2, Mn.atI_3, List.length_map, set_lastM, set_lastL, List.getLast?_concat, List.dropLast_concat, gcn_str, gcn_int, gcn_bl, gcn_non, gcs_str, gcs_int, gcs_bl, gcs_non, gcn_tup, gcs_tup, gcn_lst, gcn_lst1, gcn_lst2, refsL_strs, refsL_nil, refsL_s, refsL_i, refsL_n, refsL_b, refsL_t, refsL_app, ux_slS, ux_addS, ux_iaddS, ux_lenS, ux_ixS, ux_inT2, ux_inT3, findK_nil, findK_cons, putKD_nil, putKD_cons, gx_rvL, gx_rvF, gx_rvT, gx_rvS, gx_repl, ws_no, ux_neB, ux_eqB, txsOf_map, ws_forE, keyOf_str, keyOf_int, joinTx_nil, List.foldl_cons, List.foldl_nil, pD, pks, Pk.get, List.drop_zero, List.drop_succ_cons, List.take_succ_cons, List.take_zero, s2, List.cons.injEq, Nat.reduceEqDiff, false_and, and_false]; repeat (refine And.intro (by omega) ?_))
    simp only [shownT, reduceCtorEq, List.cons.injEq, Nat.reduceEqDiff, false_and, if_false, and_false, true_and] at q
    by_cases h1 : 1 ≤ v
    · rw [if_pos h1]
      by_cases h2 : v ≤ 39
      · rw [if_pos h2]
        rw [if_pos (by omega), roman_ones _ (by omega)] at q
        have e1 : (v / 10).toNat = v.toNat / 10 := by omega
        have e2 : (v % 10).toNat = v.toNat % 10 := by omega
        have e3 : v.toNat % 10 < onesT.length := by
          have : onesT.length = 10 := rfl
          omega
        have e4 : (onesT.getD (v.toNat % 10) []).length ≤ 4 := by
          have : ∀ i, i < 10 → (onesT.getD i []).length ≤ 4 := by decide
          exact this _ (by omega)
        have e5 : atI [D.str [], D.str [105], D.str [105, 105], D.str [105, 105, 105], D.str [105, 118], D.str [118], D.str [118, 105], D.str [118, 105, 105], D.str [118, 105, 105, 105], D.str [105, 120]] (v % 10) = some (.str (onesT.getD (v.toNat % 10) [])) := by
          rw [atI_pos (by omega) (by show v % 10 < 10; omega), e2]
          have : ∀ i, i < 10 → (onesT.map D.str)[i]? = some (.str (onesT.getD i [])) := fun i hi => by
            rw [List.getElem?_map, List.getElem?_eq_getElem (show i < onesT.length from hi), List.getD_eq_getElem?_getD, List.getElem?_eq_getElem (show i < onesT.length from hi)]
            rfl
          exact this _ (by omega)
        have e6 := repT_len (v.toNat / 10) [120]
        unfold repT at e6 q
        have e7 : (List.replicate (v.toNat / 10) ([120] : Mn.Tx)).flatten.length ≤ 4 := by
          rw [e6]
          simp
          omega
        ((try dsimp only); try simp -implicitDefEqProofs only [ws_seq, ws_set, ws_par2, ws_exp, ws_ret, ws_if, ws_tg, ws_nil, ws_aug, thenR_nx, thenR_ret, thenR_bk, thenR_ct, wp_var, wp_con, wp_bin, wp_un, wp_nil, wp_cons, wp_fn, wp_test, wp_and, wp_or, wp_not, wq_andV, wq_orV, bIf_bl, ite_both, ux_mulST, wp_notV, wp_if, wq_chain, wp_call, wp_sl, wp_nopart, wp_part, wp_bm, wp_iter, wp_rng1, wp_rng2, wp_lc, wp_bind, wp_ok, wp_up, Tg.set, setsD, List.getElem?_cons_zero, List.getElem?_cons_succ, List.set_cons_zero, List.set_cons_succ, List.length_cons, List.length_nil, and_self, if_true, reduceCtorEq, Nat.reduceAdd, List.map_cons, List.map_nil, Nat.reduceSub, List.replicate_succ, List.replicate_zero, List.cons_append, List.nil_append, ux_add, ux_iadd, ux_sub, ux_mul, ux_div, ux_mod, ux_pow, ux_neg, ux_eqI, ux_neI, ux_eqS, ux_neS, ux_lt, ux_le, ux_gt, ux_ge, ux_abs, ux_max, ux_min, ux_intI, ux_intB, ux_lst, ux_tup, mulOk_iff, true_or, or_true, ux_lenT, ux_lenF, ux_t0, ux_t1, ux_t2, ux_t3, ux_t4, ux_t5, isB, decide_eq_true_eq, Bool.not_eq_true', decide_eq_false_iff_not, i62, true_and, and_true, if_false, Int.reduceLT, Int.reduceLE, Int.reduceAbs, Nat.reduceLT, Nat.reduceLeDiff, Nat.reducePow, Int.reducePow, Int.reduceToNat, Int.reduceNeg, Nat.reduceEqDiff, or_self, not_true, not_false_eq_true, Bool.not_true, Bool.not_false, decide_true, decide_false, Bool.false_eq_true, len_map1, app2, app3, List.append_assoc, List.length_append, Nat.zero_add, Nat.add_zero, get_newc, get_new1, get_new2, get_new3, set_newc, set_new1, set_new2, it_str, it_tup, it_frl, gx_it, gx_isLs, gx_isTx, gx_len, gx_ixI, gx_ixS, gx_getI, gx_getS, ws_storeP, ws_aug2P, gx_stI, gx_stS, gx_app, gx_pop, gx_rev, gx_cat, gx_catT, gx_sl, gx_slT, gx_slF, gx_join, gx_joinT, gx_tup, gx_tupT, gx_tupF, gx_lst, gx_lstT, gx_lstF, gx_all, gx_notInK, Mn.atI_last, Mn.ixN_last, Mn.atI_0, gx_mulL, gx_mulT, ux_isB, ux_notB, ux_isNN, ux_notNN, ux_isSN, ux_notSN, ux_isIN, ux_notIN, ux_isTN, ux_notTN, ux_isRN, ux_notRN, gx_sort, gx_dct, Mn.atI_1, Mn.atI_2, Mn.atI_3, List.length_map, set_lastM, set_lastL, List.getLast?_concat, List.dropLast_concat, gcn_str, gcn_int, gcn_bl, gcn_non, gcs_str, gcs_int, gcs_bl, gcs_non, gcn_tup, gcs_tup, gcn_lst, gcn_lst1, gcn_lst2, refsL_strs, refsL_nil, refsL_s, refsL_i, refsL_n, refsL_b, refsL_t, refsL_app, ux_slS, ux_addS, ux_iaddS, ux_lenS, ux_ixS, ux_inT2, ux_inT3, findK_nil, findK_cons, putKD_nil, putKD_cons, gx_rvL, gx_rvF, gx_rvT, gx_rvS, gx_repl, ws_no, ux_neB, ux_eqB, txsOf_map, ws_forE, keyOf_str, keyOf_int, joinTx_nil, List.foldl_cons, List.foldl_nil, e1, e5]; repeat (refine And.intro (by omega) ?_))
        exact q
      · rw [if_neg h2]
        rw [if_neg (by omega)] at q
        exact q
    · rw [if_neg h1]
      rw [if_neg (by omega)] at q
      exact q
end Lw
end

section
namespace Lw
open Mn
def Rg (r o : Reg) : Regs := [([97], r), ([111, 116, 104, 101, 114], o)]
theorem Rg_a (r o : Reg) : regOf (Rg r o) [97] = r := by
  unfold regOf Rg getL
  rw [if_pos rfl]
  rfl
theorem Rg_o (r o : Reg) : regOf (Rg r o) [111, 116, 104, 101, 114] = o := by
  unfold regOf Rg getL
  rw [if_neg (show ¬ ([97] : Mn.Tx) = [111, 116, 104, 101, 114] by decide)]
  unfold getL
  rw [if_pos rfl]
  rfl
theorem Rg_put (r o q : Reg) : putL (Rg r o) [97] q = Rg q o := by
  unfold Rg putL
  rw [if_pos rfl]
theorem Rg_ok {r o : Reg} (hr : RegOk r) (ho : RegOk o) : RegsOk (Rg r o) := ⟨by unfold NoTwice Rg; simp, fun p hp => by
  unfold Rg at hp
  rcases List.mem_cons.mp hp with rfl | hp
  · exact hr
  · rw [List.mem_singleton.mp hp]
    exact ho⟩
theorem told_a (r o : Reg) : told [] [] 82 [97] (Rg r o) = (some (shownR r), Rg r o) := by
  show toldR [97] (Rg r o) = _
  have e1 : nameOf [97] = [97] := by decide
  have e2 : regsBy [97] (Rg r o) = Rg r o := by
    unfold regsBy
    rw [if_neg (by decide)]
  unfold toldR
  rw [e1, e2, Rg_a, if_pos (by decide)]
theorem told_pa (r o : Reg) : told [] [] 82 [43, 97] (Rg r o) = (some (shownR (stepF r)), Rg (stepF r) o) := by
  show toldR [43, 97] (Rg r o) = _
  have e1 : nameOf [43, 97] = [97] := by decide
  have e2 : regsBy [43, 97] (Rg r o) = Rg (stepF r) o := by
    unfold regsBy
    rw [if_pos (by decide), e1, Rg_a, Rg_put]
  unfold toldR
  rw [e2, e1, Rg_a, if_pos (by decide)]
theorem told_o (r o : Reg) : told [] [] 82 [111, 116, 104, 101, 114] (Rg r o) = (some (shownR o), Rg r o) := by
  show toldR [111, 116, 104, 101, 114] (Rg r o) = _
  have e1 : nameOf [111, 116, 104, 101, 114] = [111, 116, 104, 101, 114] := by decide
  have e2 : regsBy [111, 116, 104, 101, 114] (Rg r o) = Rg r o := by
    unfold regsBy
    rw [if_neg (by decide)]
  unfold toldR
  rw [e2, e1, Rg_o, if_pos (by decide)]
def stepNR : Nat → Reg → Reg
  | 0, r => r
  | n + 1, r => stepF (stepNR n r)
/-- the texts of the steps -/
def stepsT (r : Reg) : Nat → List Mn.Tx
  | 0 => []
  | n + 1 => stepsT r n ++ [shownR (stepNR (n + 1) r)]
theorem stepNR_in : ∀ (n : Nat) (r : Reg), stepNR n (stepF r) = stepNR (n + 1) r
  | 0, r => rfl
  | n + 1, r => by
    show stepF (stepNR n (stepF r)) = stepF (stepNR (n + 1) r)
    rw [stepNR_in n r]
theorem stepsT_cons : ∀ (n : Nat) (r : Reg), stepsT r (n + 1) = shownR (stepF r) :: stepsT (stepF r) n
  | 0, r => rfl
  | n + 1, r => by
    show stepsT r (n + 1) ++ [shownR (stepNR (n + 2) r)] = shownR (stepF r) :: (stepsT (stepF r) n ++ [shownR (stepNR (n + 1) (stepF r))])
    rw [stepsT_cons n r, stepNR_in]
    rfl
def sp (t : Mn.Tx) : Mn.Tx := 32 :: t
theorem walk_put (o : Reg) (y : Mn.Tx) : ∀ (n : Nat) (r : Reg), putAll (told [] []) ((List.replicate n [32, 92, 82, 40, 43, 97, 41]).flatten ++ y) (Rg r o) = (((stepsT r n).map sp).flatten ++ (putAll (told [] []) y (Rg (stepNR n r) o)).1, (putAll (told [] []) y (Rg (stepNR n r) o)).2)
  | 0, r => rfl
  | n + 1, r => by
    rw [List.replicate_succ, List.flatten_cons, List.append_assoc]
    show putAll (told [] []) (32 :: (92 :: 82 :: 40 :: ([43, 97] ++ 41 :: ((List.replicate n [32, 92, 82, 40, 43, 97, 41]).flatten ++ y)))) (Rg r o) = _
    rw [put_char (by decide), put_ask (.inl rfl) (by decide) (told_pa r o), walk_put o y n (stepF r), stepNR_in, stepsT_cons, List.map_cons, List.flatten_cons]
    show (32 :: (shownR (stepF r) ++ _), _) = _
    unfold sp
    simp
theorem join_sp (t : Mn.Tx) : ∀ ts : List Mn.Tx, joinTx [32] (t :: ts) = t ++ (ts.map sp).flatten
  | [] => by simp [joinTx]
  | u :: ts => by
    show t ++ [32] ++ joinTx [32] (u :: ts) = _
    rw [join_sp u ts, List.map_cons, List.flatten_cons]
    unfold sp
    simp
def dueT (r o : Reg) (n : Nat) : List Mn.Tx := shownR r :: (stepsT r n ++ [shownR o])
theorem whole_put (r o : Reg) (n : Nat) : putAll (told [] []) ([92, 82, 40, 97, 41] ++ (List.replicate n [32, 92, 82, 40, 43, 97, 41]).flatten ++ [32, 92, 82, 40, 111, 116, 104, 101, 114, 41]) (Rg r o) = (joinTx [32] (dueT r o n), Rg (stepNR n r) o) := by
  rw [List.append_assoc]
  show putAll (told [] []) (92 :: 82 :: 40 :: ([97] ++ 41 :: ((List.replicate n [32, 92, 82, 40, 43, 97, 41]).flatten ++ [32, 92, 82, 40, 111, 116, 104, 101, 114, 41]))) (Rg r o) = _
  rw [put_ask (.inl rfl) (by decide) (told_a r o), walk_put]
  have e : putAll (told [] []) [32, 92, 82, 40, 111, 116, 104, 101, 114, 41] (Rg (stepNR n r) o) = (32 :: shownR o, Rg (stepNR n r) o) := by
    show putAll (told [] []) (32 :: (92 :: 82 :: 40 :: ([111, 116, 104, 101, 114] ++ 41 :: []))) (Rg (stepNR n r) o) = _
    rw [put_char (by decide), put_ask (.inl rfl) (by decide) (told_o _ o), putAll_nil, List.append_nil]
  rw [e]
  unfold dueT
  rw [join_sp, List.map_append, List.flatten_append]
  simp [sp]
theorem stepNR_ok {r : Reg} (h : RegOk r) : ∀ n, RegOk (stepNR n r)
  | 0 => h
  | n + 1 => (stepNR_ok h n).step
theorem shownR_len {r : Reg} (h : RegOk r) : (shownR r).length ≤ 20 := (shownT_ok ⟨by have := h.v; omega, by have := h.v; omega⟩).1
theorem one_sp (t : Mn.Tx) : ([t].map sp).flatten = 32 :: t := by simp [sp]
theorem steps_len {r : Reg} (h : RegOk r) : ∀ n, ((stepsT r n).map sp).flatten.length ≤ 21 * n
  | 0 => Nat.le_refl _
  | n + 1 => by
    have i := steps_len h n
    have j := shownR_len (stepNR_ok h (n + 1))
    show (((stepsT r n ++ [shownR (stepNR (n + 1) r)]).map sp).flatten).length ≤ _
    rw [List.map_append, List.flatten_append, List.length_append, one_sp, List.length_cons]
    omega
theorem due_len {r o : Reg} (h : RegOk r) (ho : RegOk o) {n : Nat} (hn : n ≤ 5) : (joinTx [32] (dueT r o n)).length ≤ 200 := by
  have i := steps_len h n
  have j := shownR_len h
  have l := shownR_len ho
  unfold dueT
  rw [join_sp, List.map_append, List.flatten_append, List.length_append, List.length_append, one_sp, List.length_cons]
  omega
end Lw
end

section
namespace Lw
open PySem PySem.Spec PyProof.Rows L2 Mn
set_option maxHeartbeats 4000000
theorem wx_dict0 {f : Mn.Fr} {m : MH} {P : D → MH → Prop} : wp (gDict0 f m) P = P (.ref m.length) (m ++ [.dct []]) := rfl
theorem kept_in_then {m : MH} {v : Int} {P : D → MH → Prop} (i : P (.int (clampI v)) m) : wp (f_v_law_kept_in [.int v] m) P := by
  apply wp_fnD
  unfold b_v_law_kept_in
  unfold clampI at i
  ((try dsimp only); try simp -implicitDefEqProofs only [ws_seq, ws_set, ws_par2, ws_exp, ws_ret, ws_if, ws_tg, ws_nil, ws_aug, thenR_nx, thenR_ret, thenR_bk, thenR_ct, wp_var, wp_con, wp_bin, wp_un, wp_nil, wp_cons, wp_fn, wp_test, wp_and, wp_or, wp_not, wq_andV, wq_orV, bIf_bl, ite_both, ux_mulST, wp_notV, wp_if, wq_chain, wp_call, wp_sl, wp_nopart, wp_part, wp_bm, wp_iter, wp_rng1, wp_rng2, wp_lc, wp_bind, wp_ok, wp_up, Tg.set, setsD, List.getElem?_cons_zero, List.getElem?_cons_succ, List.set_cons_zero, List.set_cons_succ, List.length_cons, List.length_nil, and_self, if_true, reduceCtorEq, Nat.reduceAdd, List.map_cons, List.map_nil, Nat.reduceSub, List.replicate_succ, List.replicate_zero, List.cons_append, List.nil_append, ux_add, ux_iadd, ux_sub, ux_mul, ux_div, ux_mod, ux_pow, ux_neg, ux_eqI, ux_neI, ux_eqS, ux_neS, ux_lt, ux_le, ux_gt, ux_ge, ux_abs, ux_max, ux_min, ux_intI, ux_intB, ux_lst, ux_tup, mulOk_iff, true_or, or_true, ux_lenT, ux_lenF, ux_t0, ux_t1, ux_t2, ux_t3, ux_t4, ux_t5, isB, decide_eq_true_eq, Bool.not_eq_true', decide_eq_false_iff_not, i62, true_and, and_true, if_false, Int.reduceLT, Int.reduceLE, Int.reduceAbs, Nat.reduceLT, Nat.reduceLeDiff, Nat.reducePow, Int.reducePow, Int.reduceToNat, Int.reduceNeg, Nat.reduceEqDiff, or_self, not_true, not_false_eq_true, Bool.not_true, Bool.not_false, decide_true, decide_false, Bool.false_eq_true, len_map1, app2, app3, List.append_assoc, List.length_append, Nat.zero_add, Nat.add_zero, get_newc, get_new1, get_new2, get_new3, set_newc, set_new1, set_new2, it_str, it_tup, it_frl, gx_it, gx_isLs, gx_isTx, gx_len, gx_ixI, gx_ixS, gx_getI, gx_getS, ws_storeP, ws_aug2P, gx_stI, gx_stS, gx_app, gx_pop, gx_rev, gx_cat, gx_catT, gx_sl, gx_slT, gx_slF, gx_join, gx_joinT, gx_tup, gx_tupT, gx_tupF, gx_lst, gx_lstT, gx_lstF, gx_all, gx_notInK, Mn.atI_last, Mn.ixN_last, Mn.atI_0, gx_mulL, gx_mulT, ux_isB, ux_notB, ux_isNN, ux_notNN, ux_isSN, ux_notSN, ux_isIN, ux_notIN, ux_isTN, ux_notTN, ux_isRN, ux_notRN, gx_sort, gx_dct, Mn.atI_1, Mn.atI_2, Mn.atI_3, List.length_map, set_lastM, set_lastL, List.getLast?_concat, List.dropLast_concat, gcn_str, gcn_int, gcn_bl, gcn_non, gcs_str, gcs_int, gcs_bl, gcs_non, gcn_tup, gcs_tup, gcn_lst, gcn_lst1, gcn_lst2, refsL_strs, refsL_nil, refsL_s, refsL_i, refsL_n, refsL_b, refsL_t, refsL_app, ux_slS, ux_addS, ux_iaddS, ux_lenS, ux_ixS, ux_inT2, ux_inT3, findK_nil, findK_cons, putKD_nil, putKD_cons, gx_rvL, gx_rvF, gx_rvT, gx_rvS, gx_repl, ws_no, ux_neB, ux_eqB, txsOf_map, ws_forE, keyOf_str, keyOf_int, joinTx_nil, List.foldl_cons, List.foldl_nil]; repeat (refine And.intro (by omega) ?_))
  exact i
theorem form_then {m : MH} {v s : Int} {f : Mn.Tx} {P : D → MH → Prop} (h : RegOk (v, s, f)) (q : P (.str (shownR (v, s, f))) m) : wp (f_v_law_form [.tup [.int v, .int s, .str f]] m) P :=
  law_form_then ⟨by have := h.v; simp only at this; omega, by have := h.v; simp only at this; omega⟩ h.f q
theorem set_newK {m g : MH} {o : MO} (k : Nat) : (m ++ g).set (m.length + k) o = m ++ g.set k o := by
  rw [List.set_append_right _ _ (by omega)]
  congr 2
  omega
theorem stepNR_snd (r : Reg) : ∀ k, (stepNR k r).2 = r.2
  | 0 => rfl
  | k + 1 => by
    show ((stepNR k r).2.1, (stepNR k r).2.2) = r.2
    rw [stepNR_snd r k]
theorem step_one {r : Reg} {k : Nat} : clampI ((stepNR k r).1 + r.2.1) = (stepNR (k + 1) r).1 := by
  show _ = clampI ((stepNR k r).1 + (stepNR k r).2.1)
  rw [stepNR_snd]
theorem step_all {r : Reg} {k : Nat} : ((stepNR k r).1, r.2.1, r.2.2) = stepNR k r := by
  show ((stepNR k r).1, r.2) = ((stepNR k r).1, (stepNR k r).2)
  rw [stepNR_snd]
theorem stepsT_len (r : Reg) : ∀ k, (stepsT r k).length = k
  | 0 => rfl
  | k + 1 => by
    show (stepsT r k ++ [_]).length = _
    rw [List.length_append, stepsT_len r k]
    rfl
theorem due_each {r o : Reg} (h : RegOk r) (ho : RegOk o) (n : Nat) : ∀ y ∈ dueT r o n, y.length ≤ 20 := by
  have st : ∀ k, ∀ y ∈ stepsT r k, y.length ≤ 20 := fun k => by
    induction k with
    | zero => exact fun y hy => nomatch hy
    | succ k ih =>
      intro y hy
      rcases List.mem_append.mp hy with hy | hy
      · exact ih y hy
      · rw [List.mem_singleton.mp hy]
        exact shownR_len (stepNR_ok h (k + 1))
  intro y hy
  unfold dueT at hy
  rcases List.mem_cons.mp hy with rfl | hy
  · exact shownR_len h
  · rcases List.mem_append.mp hy with hy | hy
    · exact st n y hy
    · rw [List.mem_singleton.mp hy]
      exact shownR_len ho
theorem form_ok {f : Mn.Tx} (h : FormOk f) : f.length ≤ 2 ∧ ∀ c ∈ f, c < 0x110000 := by
  rcases h with rfl | rfl | rfl | rfl <;> decide
theorem sh_reg {m : MH} {q : Reg} (h : RegOk q) : Sh m 1 40 (regD q) (.tuple [.int q.1, .int q.2.1, .str (tx q.2.2)]) := by
  have hv := h.v
  have hs := h.s
  obtain ⟨f1, f2⟩ := form_ok h.f
  exact Sh.tup (k := 0) (.cons (w1 := 2) (w2 := 20) (.int (by omega) (by omega)) (.cons (w1 := 2) (w2 := 10) (.int (by omega) (by omega)) (.cons (w1 := 2) (w2 := 0) (.str f2 f1) .nil (by omega)) (by omega)) (by omega))
theorem getL_a (r o : Reg) : getL (Rg r o) [97] = some r := by
  unfold Rg getL
  rw [if_pos rfl]
theorem getL_o (r o : Reg) : getL (Rg r o) [111, 116, 104, 101, 114] = some o := by
  unfold Rg getL
  rw [if_neg (show ¬ ([97] : Mn.Tx) = [111, 116, 104, 101, 114] by decide)]
  unfold getL
  rw [if_pos rfl]
theorem walk_right_then {m : MH} {r o : Reg} {n : Nat} {P : D → MH → Prop} (hr : RegOk r) (ho : RegOk o) (hn : n ≤ 5) (q : P (.bl true) m) :
    wp (f_v_law_walk_right [.int r.1, .int r.2.1, .str r.2.2, .int (n : Nat), regD o] m) P := by
  have K : PutOk [] [] := ⟨(fun p hp => nomatch hp), (fun p hp => nomatch hp), by decide⟩
  apply wp_fnD
  unfold b_v_law_walk_right
  ((try dsimp only); try simp -implicitDefEqProofs only [ws_seq, ws_set, ws_par2, ws_exp, ws_ret, ws_if, ws_tg, ws_nil, ws_aug, thenR_nx, thenR_ret, thenR_bk, thenR_ct, wp_var, wp_con, wp_bin, wp_un, wp_nil, wp_cons, wp_fn, wp_test, wp_and, wp_or, wp_not, wq_andV, wq_orV, bIf_bl, ite_both, ux_mulST, wp_notV, wp_if, wq_chain, wp_call, wp_sl, wp_nopart, wp_part, wp_bm, wp_iter, wp_rng1, wp_rng2, wp_lc, wp_bind, wp_ok, wp_up, Tg.set, setsD, List.getElem?_cons_zero, List.getElem?_cons_succ, List.set_cons_zero, List.set_cons_succ, List.length_cons, List.length_nil, and_self, if_true, reduceCtorEq, Nat.reduceAdd, List.map_cons, List.map_nil, Nat.reduceSub, List.replicate_succ, List.replicate_zero, List.cons_append, List.nil_append, ux_add, ux_iadd, ux_sub, ux_mul, ux_div, ux_mod, ux_pow, ux_neg, ux_eqI, ux_neI, ux_eqS, ux_neS, ux_lt, ux_le, ux_gt, ux_ge, ux_abs, ux_max, ux_min, ux_intI, ux_intB, ux_lst, ux_tup, mulOk_iff, true_or, or_true, ux_lenT, ux_lenF, ux_t0, ux_t1, ux_t2, ux_t3, ux_t4, ux_t5, isB, decide_eq_true_eq, Bool.not_eq_true', decide_eq_false_iff_not, i62, true_and, and_true, if_false, Int.reduceLT, Int.reduceLE, Int.reduceAbs, Nat.reduceLT, Nat.reduceLeDiff, Nat.reducePow, Int.reducePow, Int.reduceToNat, Int.reduceNeg, Nat.reduceEqDiff, or_self, not_true, not_false_eq_true, Bool.not_true, Bool.not_false, decide_true, decide_false, Bool.false_eq_true, len_map1, app2, app3, List.append_assoc, List.length_append, Nat.zero_add, Nat.add_zero, get_newc, get_new1, get_new2, get_new3, set_newc, set_new1, set_new2, it_str, it_tup, it_frl, gx_it, gx_isLs, gx_isTx, gx_len, gx_ixI, gx_ixS, gx_getI, gx_getS, ws_storeP, ws_aug2P, gx_stI, gx_stS, gx_app, gx_pop, gx_rev, gx_cat, gx_catT, gx_sl, gx_slT, gx_slF, gx_join, gx_joinT, gx_tup, gx_tupT, gx_tupF, gx_lst, gx_lstT, gx_lstF, gx_all, gx_notInK, Mn.atI_last, Mn.ixN_last, Mn.atI_0, gx_mulL, gx_mulT, ux_isB, ux_notB, ux_isNN, ux_notNN, ux_isSN, ux_notSN, ux_isIN, ux_notIN, ux_isTN, ux_notTN, ux_isRN, ux_notRN, gx_sort, gx_dct, Mn.atI_1, Mn.atI_2, Mn.atI_3, List.length_map, set_lastM, set_lastL, List.getLast?_concat, List.dropLast_concat, gcn_str, gcn_int, gcn_bl, gcn_non, gcs_str, gcs_int, gcs_bl, gcs_non, gcn_tup, gcs_tup, gcn_lst, gcn_lst1, gcn_lst2, refsL_strs, refsL_nil, refsL_s, refsL_i, refsL_n, refsL_b, refsL_t, refsL_app, ux_slS, ux_addS, ux_iaddS, ux_lenS, ux_ixS, ux_inT2, ux_inT3, findK_nil, findK_cons, putKD_nil, putKD_cons, gx_rvL, gx_rvF, gx_rvT, gx_rvS, gx_repl, ws_no, ux_neB, ux_eqB, txsOf_map, ws_forE, keyOf_str, keyOf_int, joinTx_nil, List.foldl_cons, List.foldl_nil]; repeat (refine And.intro (by omega) ?_))
  refine disp_two (by decide) ?_
  ((try dsimp only); try simp -implicitDefEqProofs only [ws_seq, ws_set, ws_par2, ws_exp, ws_ret, ws_if, ws_tg, ws_nil, ws_aug, thenR_nx, thenR_ret, thenR_bk, thenR_ct, wp_var, wp_con, wp_bin, wp_un, wp_nil, wp_cons, wp_fn, wp_test, wp_and, wp_or, wp_not, wq_andV, wq_orV, bIf_bl, ite_both, ux_mulST, wp_notV, wp_if, wq_chain, wp_call, wp_sl, wp_nopart, wp_part, wp_bm, wp_iter, wp_rng1, wp_rng2, wp_lc, wp_bind, wp_ok, wp_up, Tg.set, setsD, List.getElem?_cons_zero, List.getElem?_cons_succ, List.set_cons_zero, List.set_cons_succ, List.length_cons, List.length_nil, and_self, if_true, reduceCtorEq, Nat.reduceAdd, List.map_cons, List.map_nil, Nat.reduceSub, List.replicate_succ, List.replicate_zero, List.cons_append, List.nil_append, ux_add, ux_iadd, ux_sub, ux_mul, ux_div, ux_mod, ux_pow, ux_neg, ux_eqI, ux_neI, ux_eqS, ux_neS, ux_lt, ux_le, ux_gt, ux_ge, ux_abs, ux_max, ux_min, ux_intI, ux_intB, ux_lst, ux_tup, mulOk_iff, true_or, or_true, ux_lenT, ux_lenF, ux_t0, ux_t1, ux_t2, ux_t3, ux_t4, ux_t5, isB, decide_eq_true_eq, Bool.not_eq_true', decide_eq_false_iff_not, i62, true_and, and_true, if_false, Int.reduceLT, Int.reduceLE, Int.reduceAbs, Nat.reduceLT, Nat.reduceLeDiff, Nat.reducePow, Int.reducePow, Int.reduceToNat, Int.reduceNeg, Nat.reduceEqDiff, or_self, not_true, not_false_eq_true, Bool.not_true, Bool.not_false, decide_true, decide_false, Bool.false_eq_true, len_map1, app2, app3, List.append_assoc, List.length_append, Nat.zero_add, Nat.add_zero, get_newc, get_new1, get_new2, get_new3, set_newc, set_new1, set_new2, it_str, it_tup, it_frl, gx_it, gx_isLs, gx_isTx, gx_len, gx_ixI, gx_ixS, gx_getI, gx_getS, ws_storeP, ws_aug2P, gx_stI, gx_stS, gx_app, gx_pop, gx_rev, gx_cat, gx_catT, gx_sl, gx_slT, gx_slF, gx_join, gx_joinT, gx_tup, gx_tupT, gx_tupF, gx_lst, gx_lstT, gx_lstF, gx_all, gx_notInK, Mn.atI_last, Mn.ixN_last, Mn.atI_0, gx_mulL, gx_mulT, ux_isB, ux_notB, ux_isNN, ux_notNN, ux_isSN, ux_notSN, ux_isIN, ux_notIN, ux_isTN, ux_notTN, ux_isRN, ux_notRN, gx_sort, gx_dct, Mn.atI_1, Mn.atI_2, Mn.atI_3, List.length_map, set_lastM, set_lastL, List.getLast?_concat, List.dropLast_concat, gcn_str, gcn_int, gcn_bl, gcn_non, gcs_str, gcs_int, gcs_bl, gcs_non, gcn_tup, gcs_tup, gcn_lst, gcn_lst1, gcn_lst2, refsL_strs, refsL_nil, refsL_s, refsL_i, refsL_n, refsL_b, refsL_t, refsL_app, ux_slS, ux_addS, ux_iaddS, ux_lenS, ux_ixS, ux_inT2, ux_inT3, findK_nil, findK_cons, putKD_nil, putKD_cons, gx_rvL, gx_rvF, gx_rvT, gx_rvS, gx_repl, ws_no, ux_neB, ux_eqB, txsOf_map, ws_forE, keyOf_str, keyOf_int, joinTx_nil, List.foldl_cons, List.foldl_nil]; repeat (refine And.intro (by omega) ?_))
  rw [show MO.dct [(Sum.inr [97], D.tup [D.int r.1, D.int r.2.1, D.str r.2.2]), (Sum.inr [111, 116, 104, 101, 114], regD o)] = .dct (dK regD (Rg r o)) from rfl]
  unfold r9_v_law_walk_right
  ((try dsimp only); try simp -implicitDefEqProofs only [ws_seq, ws_set, ws_par2, ws_exp, ws_ret, ws_if, ws_tg, ws_nil, ws_aug, thenR_nx, thenR_ret, thenR_bk, thenR_ct, wp_var, wp_con, wp_bin, wp_un, wp_nil, wp_cons, wp_fn, wp_test, wp_and, wp_or, wp_not, wq_andV, wq_orV, bIf_bl, ite_both, ux_mulST, wp_notV, wp_if, wq_chain, wp_call, wp_sl, wp_nopart, wp_part, wp_bm, wp_iter, wp_rng1, wp_rng2, wp_lc, wp_bind, wp_ok, wp_up, Tg.set, setsD, List.getElem?_cons_zero, List.getElem?_cons_succ, List.set_cons_zero, List.set_cons_succ, List.length_cons, List.length_nil, and_self, if_true, reduceCtorEq, Nat.reduceAdd, List.map_cons, List.map_nil, Nat.reduceSub, List.replicate_succ, List.replicate_zero, List.cons_append, List.nil_append, ux_add, ux_iadd, ux_sub, ux_mul, ux_div, ux_mod, ux_pow, ux_neg, ux_eqI, ux_neI, ux_eqS, ux_neS, ux_lt, ux_le, ux_gt, ux_ge, ux_abs, ux_max, ux_min, ux_intI, ux_intB, ux_lst, ux_tup, mulOk_iff, true_or, or_true, ux_lenT, ux_lenF, ux_t0, ux_t1, ux_t2, ux_t3, ux_t4, ux_t5, isB, decide_eq_true_eq, Bool.not_eq_true', decide_eq_false_iff_not, i62, true_and, and_true, if_false, Int.reduceLT, Int.reduceLE, Int.reduceAbs, Nat.reduceLT, Nat.reduceLeDiff, Nat.reducePow, Int.reducePow, Int.reduceToNat, Int.reduceNeg, Nat.reduceEqDiff, or_self, not_true, not_false_eq_true, Bool.not_true, Bool.not_false, decide_true, decide_false, Bool.false_eq_true, len_map1, app2, app3, List.append_assoc, List.length_append, Nat.zero_add, Nat.add_zero, get_newc, get_new1, get_new2, get_new3, set_newc, set_new1, set_new2, it_str, it_tup, it_frl, gx_it, gx_isLs, gx_isTx, gx_len, gx_ixI, gx_ixS, gx_getI, gx_getS, ws_storeP, ws_aug2P, gx_stI, gx_stS, gx_app, gx_pop, gx_rev, gx_cat, gx_catT, gx_sl, gx_slT, gx_slF, gx_join, gx_joinT, gx_tup, gx_tupT, gx_tupF, gx_lst, gx_lstT, gx_lstF, gx_all, gx_notInK, Mn.atI_last, Mn.ixN_last, Mn.atI_0, gx_mulL, gx_mulT, ux_isB, ux_notB, ux_isNN, ux_notNN, ux_isSN, ux_notSN, ux_isIN, ux_notIN, ux_isTN, ux_notTN, ux_isRN, ux_notRN, gx_sort, gx_dct, Mn.atI_1, Mn.atI_2, Mn.atI_3, List.length_map, set_lastM, set_lastL, List.getLast?_concat, List.dropLast_concat, gcn_str, gcn_int, gcn_bl, gcn_non, gcs_str, gcs_int, gcs_bl, gcs_non, gcn_tup, gcs_tup, gcn_lst, gcn_lst1, gcn_lst2, refsL_strs, refsL_nil, refsL_s, refsL_i, refsL_n, refsL_b, refsL_t, refsL_app, ux_slS, ux_addS, ux_iaddS, ux_lenS, ux_ixS, ux_inT2, ux_inT3, findK_nil, findK_cons, putKD_nil, putKD_cons, gx_rvL, gx_rvF, gx_rvT, gx_rvS, gx_repl, ws_no, ux_neB, ux_eqB, txsOf_map, ws_forE, keyOf_str, keyOf_int, joinTx_nil, List.foldl_cons, List.foldl_nil, pD, pks, Pk.get, List.drop_zero, List.drop_succ_cons, List.take_succ_cons, List.take_zero, wx_dict0, Int.toNat_natCast]; repeat (refine And.intro (by omega) ?_))
  have rl : (List.replicate n ([32, 92, 82, 40, 43, 97, 41] : Mn.Tx)).flatten.length ≤ 35 := by
    have := repT_len n [32, 92, 82, 40, 43, 97, 41]
    unfold repT at this
    rw [this]
    simp only [List.length_cons, List.length_nil]
    omega
  refine ⟨by omega, by omega, ?_⟩
  have wh := whole_put r o n
  have dl := due_len hr ho hn
  have pf : putF [] [] ([92, 82, 40, 97, 41] ++ (List.replicate n [32, 92, 82, 40, 43, 97, 41]).flatten ++ [32, 92, 82, 40, 111, 116, 104, 101, 114, 41]) (Rg r o) = (joinTx [32] (dueT r o n), Rg (stepNR n r) o) := by
    unfold putF
    rw [wh]
    dsimp only
    rw [List.take_of_length_le dl]
  refine put_in_then (x := [92, 82, 40, 97, 41] ++ (List.replicate n [32, 92, 82, 40, 43, 97, 41]).flatten ++ [32, 92, 82, 40, 111, 116, 104, 101, 114, 41]) (R := Rg r o) (S := []) (A := []) get_newc get_new1 (Rg_ok hr ho) (show 2 ≤ 1000 by decide) K (by rw [List.length_append, List.length_append]; simp only [List.length_cons, List.length_nil]; omega) ?_
  rw [pf]
  generalize hT : joinTx [32] (dueT r o n) = T at dl
  generalize hN : stepNR n r = rn
  ((try dsimp only); try simp -implicitDefEqProofs only [ws_seq, ws_set, ws_par2, ws_exp, ws_ret, ws_if, ws_tg, ws_nil, ws_aug, thenR_nx, thenR_ret, thenR_bk, thenR_ct, wp_var, wp_con, wp_bin, wp_un, wp_nil, wp_cons, wp_fn, wp_test, wp_and, wp_or, wp_not, wq_andV, wq_orV, bIf_bl, ite_both, ux_mulST, wp_notV, wp_if, wq_chain, wp_call, wp_sl, wp_nopart, wp_part, wp_bm, wp_iter, wp_rng1, wp_rng2, wp_lc, wp_bind, wp_ok, wp_up, Tg.set, setsD, List.getElem?_cons_zero, List.getElem?_cons_succ, List.set_cons_zero, List.set_cons_succ, List.length_cons, List.length_nil, and_self, if_true, reduceCtorEq, Nat.reduceAdd, List.map_cons, List.map_nil, Nat.reduceSub, List.replicate_succ, List.replicate_zero, List.cons_append, List.nil_append, ux_add, ux_iadd, ux_sub, ux_mul, ux_div, ux_mod, ux_pow, ux_neg, ux_eqI, ux_neI, ux_eqS, ux_neS, ux_lt, ux_le, ux_gt, ux_ge, ux_abs, ux_max, ux_min, ux_intI, ux_intB, ux_lst, ux_tup, mulOk_iff, true_or, or_true, ux_lenT, ux_lenF, ux_t0, ux_t1, ux_t2, ux_t3, ux_t4, ux_t5, isB, decide_eq_true_eq, Bool.not_eq_true', decide_eq_false_iff_not, i62, true_and, and_true, if_false, Int.reduceLT, Int.reduceLE, Int.reduceAbs, Nat.reduceLT, Nat.reduceLeDiff, Nat.reducePow, Int.reducePow, Int.reduceToNat, Int.reduceNeg, Nat.reduceEqDiff, or_self, not_true, not_false_eq_true, Bool.not_true, Bool.not_false, decide_true, decide_false, Bool.false_eq_true, len_map1, app2, app3, List.append_assoc, List.length_append, Nat.zero_add, Nat.add_zero, get_newc, get_new1, get_new2, get_new3, set_newc, set_new1, set_new2, it_str, it_tup, it_frl, gx_it, gx_isLs, gx_isTx, gx_len, gx_ixI, gx_ixS, gx_getI, gx_getS, ws_storeP, ws_aug2P, gx_stI, gx_stS, gx_app, gx_pop, gx_rev, gx_cat, gx_catT, gx_sl, gx_slT, gx_slF, gx_join, gx_joinT, gx_tup, gx_tupT, gx_tupF, gx_lst, gx_lstT, gx_lstF, gx_all, gx_notInK, Mn.atI_last, Mn.ixN_last, Mn.atI_0, gx_mulL, gx_mulT, ux_isB, ux_notB, ux_isNN, ux_notNN, ux_isSN, ux_notSN, ux_isIN, ux_notIN, ux_isTN, ux_notTN, ux_isRN, ux_notRN, gx_sort, gx_dct, Mn.atI_1, Mn.atI_2, Mn.atI_3, List.length_map, set_lastM, set_lastL, List.getLast?_concat, List.dropLast_concat, gcn_str, gcn_int, gcn_bl, gcn_non, gcs_str, gcs_int, gcs_bl, gcs_non, gcn_tup, gcs_tup, gcn_lst, gcn_lst1, gcn_lst2, refsL_strs, refsL_nil, refsL_s, refsL_i, refsL_n, refsL_b, refsL_t, refsL_app, ux_slS, ux_addS, ux_iaddS, ux_lenS, ux_ixS, ux_inT2, ux_inT3, findK_nil, findK_cons, putKD_nil, putKD_cons, gx_rvL, gx_rvF, gx_rvT, gx_rvS, gx_repl, ws_no, ux_neB, ux_eqB, txsOf_map, ws_forE, keyOf_str, keyOf_int, joinTx_nil, List.foldl_cons, List.foldl_nil])
  unfold r8_v_law_walk_right
  ((try dsimp only); try simp -implicitDefEqProofs only [ws_seq, ws_set, ws_par2, ws_exp, ws_ret, ws_if, ws_tg, ws_nil, ws_aug, thenR_nx, thenR_ret, thenR_bk, thenR_ct, wp_var, wp_con, wp_bin, wp_un, wp_nil, wp_cons, wp_fn, wp_test, wp_and, wp_or, wp_not, wq_andV, wq_orV, bIf_bl, ite_both, ux_mulST, wp_notV, wp_if, wq_chain, wp_call, wp_sl, wp_nopart, wp_part, wp_bm, wp_iter, wp_rng1, wp_rng2, wp_lc, wp_bind, wp_ok, wp_up, Tg.set, setsD, List.getElem?_cons_zero, List.getElem?_cons_succ, List.set_cons_zero, List.set_cons_succ, List.length_cons, List.length_nil, and_self, if_true, reduceCtorEq, Nat.reduceAdd, List.map_cons, List.map_nil, Nat.reduceSub, List.replicate_succ, List.replicate_zero, List.cons_append, List.nil_append, ux_add, ux_iadd, ux_sub, ux_mul, ux_div, ux_mod, ux_pow, ux_neg, ux_eqI, ux_neI, ux_eqS, ux_neS, ux_lt, ux_le, ux_gt, ux_ge, ux_abs, ux_max, ux_min, ux_intI, ux_intB, ux_lst, ux_tup, mulOk_iff, true_or, or_true, ux_lenT, ux_lenF, ux_t0, ux_t1, ux_t2, ux_t3, ux_t4, ux_t5, isB, decide_eq_true_eq, Bool.not_eq_true', decide_eq_false_iff_not, i62, true_and, and_true, if_false, Int.reduceLT, Int.reduceLE, Int.reduceAbs, Nat.reduceLT, Nat.reduceLeDiff, Nat.reducePow, Int.reducePow, Int.reduceToNat, Int.reduceNeg, Nat.reduceEqDiff, or_self, not_true, not_false_eq_true, Bool.not_true, Bool.not_false, decide_true, decide_false, Bool.false_eq_true, len_map1, app2, app3, List.append_assoc, List.length_append, Nat.zero_add, Nat.add_zero, get_newc, get_new1, get_new2, get_new3, set_newc, set_new1, set_new2, it_str, it_tup, it_frl, gx_it, gx_isLs, gx_isTx, gx_len, gx_ixI, gx_ixS, gx_getI, gx_getS, ws_storeP, ws_aug2P, gx_stI, gx_stS, gx_app, gx_pop, gx_rev, gx_cat, gx_catT, gx_sl, gx_slT, gx_slF, gx_join, gx_joinT, gx_tup, gx_tupT, gx_tupF, gx_lst, gx_lstT, gx_lstF, gx_all, gx_notInK, Mn.atI_last, Mn.ixN_last, Mn.atI_0, gx_mulL, gx_mulT, ux_isB, ux_notB, ux_isNN, ux_notNN, ux_isSN, ux_notSN, ux_isIN, ux_notIN, ux_isTN, ux_notTN, ux_isRN, ux_notRN, gx_sort, gx_dct, Mn.atI_1, Mn.atI_2, Mn.atI_3, List.length_map, set_lastM, set_lastL, List.getLast?_concat, List.dropLast_concat, gcn_str, gcn_int, gcn_bl, gcn_non, gcs_str, gcs_int, gcs_bl, gcs_non, gcn_tup, gcs_tup, gcn_lst, gcn_lst1, gcn_lst2, refsL_strs, refsL_nil, refsL_s, refsL_i, refsL_n, refsL_b, refsL_t, refsL_app, ux_slS, ux_addS, ux_iaddS, ux_lenS, ux_ixS, ux_inT2, ux_inT3, findK_nil, findK_cons, putKD_nil, putKD_cons, gx_rvL, gx_rvF, gx_rvT, gx_rvS, gx_repl, ws_no, ux_neB, ux_eqB, txsOf_map, ws_forE, keyOf_str, keyOf_int, joinTx_nil, List.foldl_cons, List.foldl_nil, pD, pks, Pk.get, List.drop_zero, List.drop_succ_cons, List.take_succ_cons, List.take_zero])
  refine form_then hr ?_
  ((try dsimp only); try simp -implicitDefEqProofs only [ws_seq, ws_set, ws_par2, ws_exp, ws_ret, ws_if, ws_tg, ws_nil, ws_aug, thenR_nx, thenR_ret, thenR_bk, thenR_ct, wp_var, wp_con, wp_bin, wp_un, wp_nil, wp_cons, wp_fn, wp_test, wp_and, wp_or, wp_not, wq_andV, wq_orV, bIf_bl, ite_both, ux_mulST, wp_notV, wp_if, wq_chain, wp_call, wp_sl, wp_nopart, wp_part, wp_bm, wp_iter, wp_rng1, wp_rng2, wp_lc, wp_bind, wp_ok, wp_up, Tg.set, setsD, List.getElem?_cons_zero, List.getElem?_cons_succ, List.set_cons_zero, List.set_cons_succ, List.length_cons, List.length_nil, and_self, if_true, reduceCtorEq, Nat.reduceAdd, List.map_cons, List.map_nil, Nat.reduceSub, List.replicate_succ, List.replicate_zero, List.cons_append, List.nil_append, ux_add, ux_iadd, ux_sub, ux_mul, ux_div, ux_mod, ux_pow, ux_neg, ux_eqI, ux_neI, ux_eqS, ux_neS, ux_lt, ux_le, ux_gt, ux_ge, ux_abs, ux_max, ux_min, ux_intI, ux_intB, ux_lst, ux_tup, mulOk_iff, true_or, or_true, ux_lenT, ux_lenF, ux_t0, ux_t1, ux_t2, ux_t3, ux_t4, ux_t5, isB, decide_eq_true_eq, Bool.not_eq_true', decide_eq_false_iff_not, i62, true_and, and_true, if_false, Int.reduceLT, Int.reduceLE, Int.reduceAbs, Nat.reduceLT, Nat.reduceLeDiff, Nat.reducePow, Int.reducePow, Int.reduceToNat, Int.reduceNeg, Nat.reduceEqDiff, or_self, not_true, not_false_eq_true, Bool.not_true, Bool.not_false, decide_true, decide_false, Bool.false_eq_true, len_map1, app2, app3, List.append_assoc, List.length_append, Nat.zero_add, Nat.add_zero, get_newc, get_new1, get_new2, get_new3, set_newc, set_new1, set_new2, it_str, it_tup, it_frl, gx_it, gx_isLs, gx_isTx, gx_len, gx_ixI, gx_ixS, gx_getI, gx_getS, ws_storeP, ws_aug2P, gx_stI, gx_stS, gx_app, gx_pop, gx_rev, gx_cat, gx_catT, gx_sl, gx_slT, gx_slF, gx_join, gx_joinT, gx_tup, gx_tupT, gx_tupF, gx_lst, gx_lstT, gx_lstF, gx_all, gx_notInK, Mn.atI_last, Mn.ixN_last, Mn.atI_0, gx_mulL, gx_mulT, ux_isB, ux_notB, ux_isNN, ux_notNN, ux_isSN, ux_notSN, ux_isIN, ux_notIN, ux_isTN, ux_notTN, ux_isRN, ux_notRN, gx_sort, gx_dct, Mn.atI_1, Mn.atI_2, Mn.atI_3, List.length_map, set_lastM, set_lastL, List.getLast?_concat, List.dropLast_concat, gcn_str, gcn_int, gcn_bl, gcn_non, gcs_str, gcs_int, gcs_bl, gcs_non, gcn_tup, gcs_tup, gcn_lst, gcn_lst1, gcn_lst2, refsL_strs, refsL_nil, refsL_s, refsL_i, refsL_n, refsL_b, refsL_t, refsL_app, ux_slS, ux_addS, ux_iaddS, ux_lenS, ux_ixS, ux_inT2, ux_inT3, findK_nil, findK_cons, putKD_nil, putKD_cons, gx_rvL, gx_rvF, gx_rvT, gx_rvS, gx_repl, ws_no, ux_neB, ux_eqB, txsOf_map, ws_forE, keyOf_str, keyOf_int, joinTx_nil, List.foldl_cons, List.foldl_nil])
  unfold r7_v_law_walk_right
  ((try dsimp only); try simp -implicitDefEqProofs only [ws_seq, ws_set, ws_par2, ws_exp, ws_ret, ws_if, ws_tg, ws_nil, ws_aug, thenR_nx, thenR_ret, thenR_bk, thenR_ct, wp_var, wp_con, wp_bin, wp_un, wp_nil, wp_cons, wp_fn, wp_test, wp_and, wp_or, wp_not, wq_andV, wq_orV, bIf_bl, ite_both, ux_mulST, wp_notV, wp_if, wq_chain, wp_call, wp_sl, wp_nopart, wp_part, wp_bm, wp_iter, wp_rng1, wp_rng2, wp_lc, wp_bind, wp_ok, wp_up, Tg.set, setsD, List.getElem?_cons_zero, List.getElem?_cons_succ, List.set_cons_zero, List.set_cons_succ, List.length_cons, List.length_nil, and_self, if_true, reduceCtorEq, Nat.reduceAdd, List.map_cons, List.map_nil, Nat.reduceSub, List.replicate_succ, List.replicate_zero, List.cons_append, List.nil_append, ux_add, ux_iadd, ux_sub, ux_mul, ux_div, ux_mod, ux_pow, ux_neg, ux_eqI, ux_neI, ux_eqS, ux_neS, ux_lt, ux_le, ux_gt, ux_ge, ux_abs, ux_max, ux_min, ux_intI, ux_intB, ux_lst, ux_tup, mulOk_iff, true_or, or_true, ux_lenT, ux_lenF, ux_t0, ux_t1, ux_t2, ux_t3, ux_t4, ux_t5, isB, decide_eq_true_eq, Bool.not_eq_true', decide_eq_false_iff_not, i62, true_and, and_true, if_false, Int.reduceLT, Int.reduceLE, Int.reduceAbs, Nat.reduceLT, Nat.reduceLeDiff, Nat.reducePow, Int.reducePow, Int.reduceToNat, Int.reduceNeg, Nat.reduceEqDiff, or_self, not_true, not_false_eq_true, Bool.not_true, Bool.not_false, decide_true, decide_false, Bool.false_eq_true, len_map1, app2, app3, List.append_assoc, List.length_append, Nat.zero_add, Nat.add_zero, get_newc, get_new1, get_new2, get_new3, set_newc, set_new1, set_new2, it_str, it_tup, it_frl, gx_it, gx_isLs, gx_isTx, gx_len, gx_ixI, gx_ixS, gx_getI, gx_getS, ws_storeP, ws_aug2P, gx_stI, gx_stS, gx_app, gx_pop, gx_rev, gx_cat, gx_catT, gx_sl, gx_slT, gx_slF, gx_join, gx_joinT, gx_tup, gx_tupT, gx_tupF, gx_lst, gx_lstT, gx_lstF, gx_all, gx_notInK, Mn.atI_last, Mn.ixN_last, Mn.atI_0, gx_mulL, gx_mulT, ux_isB, ux_notB, ux_isNN, ux_notNN, ux_isSN, ux_notSN, ux_isIN, ux_notIN, ux_isTN, ux_notTN, ux_isRN, ux_notRN, gx_sort, gx_dct, Mn.atI_1, Mn.atI_2, Mn.atI_3, List.length_map, set_lastM, set_lastL, List.getLast?_concat, List.dropLast_concat, gcn_str, gcn_int, gcn_bl, gcn_non, gcs_str, gcs_int, gcs_bl, gcs_non, gcn_tup, gcs_tup, gcn_lst, gcn_lst1, gcn_lst2, refsL_strs, refsL_nil, refsL_s, refsL_i, refsL_n, refsL_b, refsL_t, refsL_app, ux_slS, ux_addS, ux_iaddS, ux_lenS, ux_ixS, ux_inT2, ux_inT3, findK_nil, findK_cons, putKD_nil, putKD_cons, gx_rvL, gx_rvF, gx_rvT, gx_rvS, gx_repl, ws_no, ux_neB, ux_eqB, txsOf_map, ws_forE, keyOf_str, keyOf_int, joinTx_nil, List.foldl_cons, List.foldl_nil])
  refine ⟨(n : Nat), rfl, i62_nat (by omega) (by omega), ?_⟩
  rw [Int.toNat_natCast]
  have rn_ok := stepNR_ok hr n
  have ll : ∀ k, (stepsT r k).length = k := stepsT_len r
  refine ws_range (by omega) (fun k f m' => ∃ v7 : Option D, f = [some (.int (stepNR k r).1), some (.int r.2.1), some (.str r.2.2), some (.int (n : Nat)), some (regD o), some (.ref m.length), some (.ref (m.length + 3)), v7, none, some (.str T), some (.ref (m.length + 2))] ∧
    m' = m ++ [.dct (dK regD (Rg r o)), .dct (dK D.str []), .dct (dK regD (Rg rn o)), .lst ((shownR r :: stepsT r k).map D.str)]) ⟨none, rfl, rfl⟩ ?_ ?_
  · rintro k f m' hk ⟨v7, rfl, rfl⟩
    refine ⟨_, rfl, ?_⟩
    unfold l6_v_law_walk_right
    ((try dsimp only); try simp -implicitDefEqProofs only [ws_seq, ws_set, ws_par2, ws_exp, ws_ret, ws_if, ws_tg, ws_nil, ws_aug, thenR_nx, thenR_ret, thenR_bk, thenR_ct, wp_var, wp_con, wp_bin, wp_un, wp_nil, wp_cons, wp_fn, wp_test, wp_and, wp_or, wp_not, wq_andV, wq_orV, bIf_bl, ite_both, ux_mulST, wp_notV, wp_if, wq_chain, wp_call, wp_sl, wp_nopart, wp_part, wp_bm, wp_iter, wp_rng1, wp_rng2, wp_lc, wp_bind, wp_ok, wp_up, Tg.set, setsD, List.getElem?_cons_zero, List.getElem?_cons_succ, List.set_cons_zero, List.set_cons_succ, List.length_cons, List.length_nil, and_self, if_true, reduceCtorEq, Nat.reduceAdd, List.map_cons, List.map_nil, Nat.reduceSub, List.replicate_succ, List.replicate_zero, List.cons_append, List.nil_append, ux_add, ux_iadd, ux_sub, ux_mul, ux_div, ux_mod, ux_pow, ux_neg, ux_eqI, ux_neI, ux_eqS, ux_neS, ux_lt, ux_le, ux_gt, ux_ge, ux_abs, ux_max, ux_min, ux_intI, ux_intB, ux_lst, ux_tup, mulOk_iff, true_or, or_true, ux_lenT, ux_lenF, ux_t0, ux_t1, ux_t2, ux_t3, ux_t4, ux_t5, isB, decide_eq_true_eq, Bool.not_eq_true', decide_eq_false_iff_not, i62, true_and, and_true, if_false, Int.reduceLT, Int.reduceLE, Int.reduceAbs, Nat.reduceLT, Nat.reduceLeDiff, Nat.reducePow, Int.reducePow, Int.reduceToNat, Int.reduceNeg, Nat.reduceEqDiff, or_self, not_true, not_false_eq_true, Bool.not_true, Bool.not_false, decide_true, decide_false, Bool.false_eq_true, len_map1, app2, app3, List.append_assoc, List.length_append, Nat.zero_add, Nat.add_zero, get_newc, get_new1, get_new2, get_new3, set_newc, set_new1, set_new2, it_str, it_tup, it_frl, gx_it, gx_isLs, gx_isTx, gx_len, gx_ixI, gx_ixS, gx_getI, gx_getS, ws_storeP, ws_aug2P, gx_stI, gx_stS, gx_app, gx_pop, gx_rev, gx_cat, gx_catT, gx_sl, gx_slT, gx_slF, gx_join, gx_joinT, gx_tup, gx_tupT, gx_tupF, gx_lst, gx_lstT, gx_lstF, gx_all, gx_notInK, Mn.atI_last, Mn.ixN_last, Mn.atI_0, gx_mulL, gx_mulT, ux_isB, ux_notB, ux_isNN, ux_notNN, ux_isSN, ux_notSN, ux_isIN, ux_notIN, ux_isTN, ux_notTN, ux_isRN, ux_notRN, gx_sort, gx_dct, Mn.atI_1, Mn.atI_2, Mn.atI_3, List.length_map, set_lastM, set_lastL, List.getLast?_concat, List.dropLast_concat, gcn_str, gcn_int, gcn_bl, gcn_non, gcs_str, gcs_int, gcs_bl, gcs_non, gcn_tup, gcs_tup, gcn_lst, gcn_lst1, gcn_lst2, refsL_strs, refsL_nil, refsL_s, refsL_i, refsL_n, refsL_b, refsL_t, refsL_app, ux_slS, ux_addS, ux_iaddS, ux_lenS, ux_ixS, ux_inT2, ux_inT3, findK_nil, findK_cons, putKD_nil, putKD_cons, gx_rvL, gx_rvF, gx_rvT, gx_rvS, gx_repl, ws_no, ux_neB, ux_eqB, txsOf_map, ws_forE, keyOf_str, keyOf_int, joinTx_nil, List.foldl_cons, List.foldl_nil, pD, pks, Pk.get, List.drop_zero, List.drop_succ_cons, List.take_succ_cons, List.take_zero])
    refine kept_in_then ?_
    rw [step_one]
    ((try dsimp only); try simp -implicitDefEqProofs only [ws_seq, ws_set, ws_par2, ws_exp, ws_ret, ws_if, ws_tg, ws_nil, ws_aug, thenR_nx, thenR_ret, thenR_bk, thenR_ct, wp_var, wp_con, wp_bin, wp_un, wp_nil, wp_cons, wp_fn, wp_test, wp_and, wp_or, wp_not, wq_andV, wq_orV, bIf_bl, ite_both, ux_mulST, wp_notV, wp_if, wq_chain, wp_call, wp_sl, wp_nopart, wp_part, wp_bm, wp_iter, wp_rng1, wp_rng2, wp_lc, wp_bind, wp_ok, wp_up, Tg.set, setsD, List.getElem?_cons_zero, List.getElem?_cons_succ, List.set_cons_zero, List.set_cons_succ, List.length_cons, List.length_nil, and_self, if_true, reduceCtorEq, Nat.reduceAdd, List.map_cons, List.map_nil, Nat.reduceSub, List.replicate_succ, List.replicate_zero, List.cons_append, List.nil_append, ux_add, ux_iadd, ux_sub, ux_mul, ux_div, ux_mod, ux_pow, ux_neg, ux_eqI, ux_neI, ux_eqS, ux_neS, ux_lt, ux_le, ux_gt, ux_ge, ux_abs, ux_max, ux_min, ux_intI, ux_intB, ux_lst, ux_tup, mulOk_iff, true_or, or_true, ux_lenT, ux_lenF, ux_t0, ux_t1, ux_t2, ux_t3, ux_t4, ux_t5, isB, decide_eq_true_eq, Bool.not_eq_true', decide_eq_false_iff_not, i62, true_and, and_true, if_false, Int.reduceLT, Int.reduceLE, Int.reduceAbs, Nat.reduceLT, Nat.reduceLeDiff, Nat.reducePow, Int.reducePow, Int.reduceToNat, Int.reduceNeg, Nat.reduceEqDiff, or_self, not_true, not_false_eq_true, Bool.not_true, Bool.not_false, decide_true, decide_false, Bool.false_eq_true, len_map1, app2, app3, List.append_assoc, List.length_append, Nat.zero_add, Nat.add_zero, get_newc, get_new1, get_new2, get_new3, set_newc, set_new1, set_new2, it_str, it_tup, it_frl, gx_it, gx_isLs, gx_isTx, gx_len, gx_ixI, gx_ixS, gx_getI, gx_getS, ws_storeP, ws_aug2P, gx_stI, gx_stS, gx_app, gx_pop, gx_rev, gx_cat, gx_catT, gx_sl, gx_slT, gx_slF, gx_join, gx_joinT, gx_tup, gx_tupT, gx_tupF, gx_lst, gx_lstT, gx_lstF, gx_all, gx_notInK, Mn.atI_last, Mn.ixN_last, Mn.atI_0, gx_mulL, gx_mulT, ux_isB, ux_notB, ux_isNN, ux_notNN, ux_isSN, ux_notSN, ux_isIN, ux_notIN, ux_isTN, ux_notTN, ux_isRN, ux_notRN, gx_sort, gx_dct, Mn.atI_1, Mn.atI_2, Mn.atI_3, List.length_map, set_lastM, set_lastL, List.getLast?_concat, List.dropLast_concat, gcn_str, gcn_int, gcn_bl, gcn_non, gcs_str, gcs_int, gcs_bl, gcs_non, gcn_tup, gcs_tup, gcn_lst, gcn_lst1, gcn_lst2, refsL_strs, refsL_nil, refsL_s, refsL_i, refsL_n, refsL_b, refsL_t, refsL_app, ux_slS, ux_addS, ux_iaddS, ux_lenS, ux_ixS, ux_inT2, ux_inT3, findK_nil, findK_cons, putKD_nil, putKD_cons, gx_rvL, gx_rvF, gx_rvT, gx_rvS, gx_repl, ws_no, ux_neB, ux_eqB, txsOf_map, ws_forE, keyOf_str, keyOf_int, joinTx_nil, List.foldl_cons, List.foldl_nil])
    unfold r5_v_law_walk_right
    ((try dsimp only); try simp -implicitDefEqProofs only [ws_seq, ws_set, ws_par2, ws_exp, ws_ret, ws_if, ws_tg, ws_nil, ws_aug, thenR_nx, thenR_ret, thenR_bk, thenR_ct, wp_var, wp_con, wp_bin, wp_un, wp_nil, wp_cons, wp_fn, wp_test, wp_and, wp_or, wp_not, wq_andV, wq_orV, bIf_bl, ite_both, ux_mulST, wp_notV, wp_if, wq_chain, wp_call, wp_sl, wp_nopart, wp_part, wp_bm, wp_iter, wp_rng1, wp_rng2, wp_lc, wp_bind, wp_ok, wp_up, Tg.set, setsD, List.getElem?_cons_zero, List.getElem?_cons_succ, List.set_cons_zero, List.set_cons_succ, List.length_cons, List.length_nil, and_self, if_true, reduceCtorEq, Nat.reduceAdd, List.map_cons, List.map_nil, Nat.reduceSub, List.replicate_succ, List.replicate_zero, List.cons_append, List.nil_append, ux_add, ux_iadd, ux_sub, ux_mul, ux_div, ux_mod, ux_pow, ux_neg, ux_eqI, ux_neI, ux_eqS, ux_neS, ux_lt, ux_le, ux_gt, ux_ge, ux_abs, ux_max, ux_min, ux_intI, ux_intB, ux_lst, ux_tup, mulOk_iff, true_or, or_true, ux_lenT, ux_lenF, ux_t0, ux_t1, ux_t2, ux_t3, ux_t4, ux_t5, isB, decide_eq_true_eq, Bool.not_eq_true', decide_eq_false_iff_not, i62, true_and, and_true, if_false, Int.reduceLT, Int.reduceLE, Int.reduceAbs, Nat.reduceLT, Nat.reduceLeDiff, Nat.reducePow, Int.reducePow, Int.reduceToNat, Int.reduceNeg, Nat.reduceEqDiff, or_self, not_true, not_false_eq_true, Bool.not_true, Bool.not_false, decide_true, decide_false, Bool.false_eq_true, len_map1, app2, app3, List.append_assoc, List.length_append, Nat.zero_add, Nat.add_zero, get_newc, get_new1, get_new2, get_new3, set_newc, set_new1, set_new2, it_str, it_tup, it_frl, gx_it, gx_isLs, gx_isTx, gx_len, gx_ixI, gx_ixS, gx_getI, gx_getS, ws_storeP, ws_aug2P, gx_stI, gx_stS, gx_app, gx_pop, gx_rev, gx_cat, gx_catT, gx_sl, gx_slT, gx_slF, gx_join, gx_joinT, gx_tup, gx_tupT, gx_tupF, gx_lst, gx_lstT, gx_lstF, gx_all, gx_notInK, Mn.atI_last, Mn.ixN_last, Mn.atI_0, gx_mulL, gx_mulT, ux_isB, ux_notB, ux_isNN, ux_notNN, ux_isSN, ux_notSN, ux_isIN, ux_notIN, ux_isTN, ux_notTN, ux_isRN, ux_notRN, gx_sort, gx_dct, Mn.atI_1, Mn.atI_2, Mn.atI_3, List.length_map, set_lastM, set_lastL, List.getLast?_concat, List.dropLast_concat, gcn_str, gcn_int, gcn_bl, gcn_non, gcs_str, gcs_int, gcs_bl, gcs_non, gcn_tup, gcs_tup, gcn_lst, gcn_lst1, gcn_lst2, refsL_strs, refsL_nil, refsL_s, refsL_i, refsL_n, refsL_b, refsL_t, refsL_app, ux_slS, ux_addS, ux_iaddS, ux_lenS, ux_ixS, ux_inT2, ux_inT3, findK_nil, findK_cons, putKD_nil, putKD_cons, gx_rvL, gx_rvF, gx_rvT, gx_rvS, gx_repl, ws_no, ux_neB, ux_eqB, txsOf_map, ws_forE, keyOf_str, keyOf_int, joinTx_nil, List.foldl_cons, List.foldl_nil, pD, pks, Pk.get, List.drop_zero, List.drop_succ_cons, List.take_succ_cons, List.take_zero])
    have ok1 : RegOk ((stepNR (k + 1) r).1, r.2.1, r.2.2) := by
      rw [step_all]
      exact stepNR_ok hr (k + 1)
    refine form_then ok1 ?_
    rw [step_all]
    ((try dsimp only); try simp -implicitDefEqProofs only [ws_seq, ws_set, ws_par2, ws_exp, ws_ret, ws_if, ws_tg, ws_nil, ws_aug, thenR_nx, thenR_ret, thenR_bk, thenR_ct, wp_var, wp_con, wp_bin, wp_un, wp_nil, wp_cons, wp_fn, wp_test, wp_and, wp_or, wp_not, wq_andV, wq_orV, bIf_bl, ite_both, ux_mulST, wp_notV, wp_if, wq_chain, wp_call, wp_sl, wp_nopart, wp_part, wp_bm, wp_iter, wp_rng1, wp_rng2, wp_lc, wp_bind, wp_ok, wp_up, Tg.set, setsD, List.getElem?_cons_zero, List.getElem?_cons_succ, List.set_cons_zero, List.set_cons_succ, List.length_cons, List.length_nil, and_self, if_true, reduceCtorEq, Nat.reduceAdd, List.map_cons, List.map_nil, Nat.reduceSub, List.replicate_succ, List.replicate_zero, List.cons_append, List.nil_append, ux_add, ux_iadd, ux_sub, ux_mul, ux_div, ux_mod, ux_pow, ux_neg, ux_eqI, ux_neI, ux_eqS, ux_neS, ux_lt, ux_le, ux_gt, ux_ge, ux_abs, ux_max, ux_min, ux_intI, ux_intB, ux_lst, ux_tup, mulOk_iff, true_or, or_true, ux_lenT, ux_lenF, ux_t0, ux_t1, ux_t2, ux_t3, ux_t4, ux_t5, isB, decide_eq_true_eq, Bool.not_eq_true', decide_eq_false_iff_not, i62, true_and, and_true, if_false, Int.reduceLT, Int.reduceLE, Int.reduceAbs, Nat.reduceLT, Nat.reduceLeDiff, Nat.reducePow, Int.reducePow, Int.reduceToNat, Int.reduceNeg, Nat.reduceEqDiff, or_self, not_true, not_false_eq_true, Bool.not_true, Bool.not_false, decide_true, decide_false, Bool.false_eq_true, len_map1, app2, app3, List.append_assoc, List.length_append, Nat.zero_add, Nat.add_zero, get_newc, get_new1, get_new2, get_new3, set_newc, set_new1, set_new2, it_str, it_tup, it_frl, gx_it, gx_isLs, gx_isTx, gx_len, gx_ixI, gx_ixS, gx_getI, gx_getS, ws_storeP, ws_aug2P, gx_stI, gx_stS, gx_app, gx_pop, gx_rev, gx_cat, gx_catT, gx_sl, gx_slT, gx_slF, gx_join, gx_joinT, gx_tup, gx_tupT, gx_tupF, gx_lst, gx_lstT, gx_lstF, gx_all, gx_notInK, Mn.atI_last, Mn.ixN_last, Mn.atI_0, gx_mulL, gx_mulT, ux_isB, ux_notB, ux_isNN, ux_notNN, ux_isSN, ux_notSN, ux_isIN, ux_notIN, ux_isTN, ux_notTN, ux_isRN, ux_notRN, gx_sort, gx_dct, Mn.atI_1, Mn.atI_2, Mn.atI_3, List.length_map, set_lastM, set_lastL, List.getLast?_concat, List.dropLast_concat, gcn_str, gcn_int, gcn_bl, gcn_non, gcs_str, gcs_int, gcs_bl, gcs_non, gcn_tup, gcs_tup, gcn_lst, gcn_lst1, gcn_lst2, refsL_strs, refsL_nil, refsL_s, refsL_i, refsL_n, refsL_b, refsL_t, refsL_app, ux_slS, ux_addS, ux_iaddS, ux_lenS, ux_ixS, ux_inT2, ux_inT3, findK_nil, findK_cons, putKD_nil, putKD_cons, gx_rvL, gx_rvF, gx_rvT, gx_rvS, gx_repl, ws_no, ux_neB, ux_eqB, txsOf_map, ws_forE, keyOf_str, keyOf_int, joinTx_nil, List.foldl_cons, List.foldl_nil, get_newK, set_newK, List.length_map, ll])
    refine ⟨by omega, _, rfl, ?_⟩
    rw [show stepsT r (k + 1) = stepsT r k ++ [shownR (stepNR (k + 1) r)] from rfl, List.map_append]
    rfl
  · rintro f m' ⟨v7, rfl, rfl⟩
    unfold r4_v_law_walk_right
    ((try dsimp only); try simp -implicitDefEqProofs only [ws_seq, ws_set, ws_par2, ws_exp, ws_ret, ws_if, ws_tg, ws_nil, ws_aug, thenR_nx, thenR_ret, thenR_bk, thenR_ct, wp_var, wp_con, wp_bin, wp_un, wp_nil, wp_cons, wp_fn, wp_test, wp_and, wp_or, wp_not, wq_andV, wq_orV, bIf_bl, ite_both, ux_mulST, wp_notV, wp_if, wq_chain, wp_call, wp_sl, wp_nopart, wp_part, wp_bm, wp_iter, wp_rng1, wp_rng2, wp_lc, wp_bind, wp_ok, wp_up, Tg.set, setsD, List.getElem?_cons_zero, List.getElem?_cons_succ, List.set_cons_zero, List.set_cons_succ, List.length_cons, List.length_nil, and_self, if_true, reduceCtorEq, Nat.reduceAdd, List.map_cons, List.map_nil, Nat.reduceSub, List.replicate_succ, List.replicate_zero, List.cons_append, List.nil_append, ux_add, ux_iadd, ux_sub, ux_mul, ux_div, ux_mod, ux_pow, ux_neg, ux_eqI, ux_neI, ux_eqS, ux_neS, ux_lt, ux_le, ux_gt, ux_ge, ux_abs, ux_max, ux_min, ux_intI, ux_intB, ux_lst, ux_tup, mulOk_iff, true_or, or_true, ux_lenT, ux_lenF, ux_t0, ux_t1, ux_t2, ux_t3, ux_t4, ux_t5, isB, decide_eq_true_eq, Bool.not_eq_true', decide_eq_false_iff_not, i62, true_and, and_true, if_false, Int.reduceLT, Int.reduceLE, Int.reduceAbs, Nat.reduceLT, Nat.reduceLeDiff, Nat.reducePow, Int.reducePow, Int.reduceToNat, Int.reduceNeg, Nat.reduceEqDiff, or_self, not_true, not_false_eq_true, Bool.not_true, Bool.not_false, decide_true, decide_false, Bool.false_eq_true, len_map1, app2, app3, List.append_assoc, List.length_append, Nat.zero_add, Nat.add_zero, get_newc, get_new1, get_new2, get_new3, set_newc, set_new1, set_new2, it_str, it_tup, it_frl, gx_it, gx_isLs, gx_isTx, gx_len, gx_ixI, gx_ixS, gx_getI, gx_getS, ws_storeP, ws_aug2P, gx_stI, gx_stS, gx_app, gx_pop, gx_rev, gx_cat, gx_catT, gx_sl, gx_slT, gx_slF, gx_join, gx_joinT, gx_tup, gx_tupT, gx_tupF, gx_lst, gx_lstT, gx_lstF, gx_all, gx_notInK, Mn.atI_last, Mn.ixN_last, Mn.atI_0, gx_mulL, gx_mulT, ux_isB, ux_notB, ux_isNN, ux_notNN, ux_isSN, ux_notSN, ux_isIN, ux_notIN, ux_isTN, ux_notTN, ux_isRN, ux_notRN, gx_sort, gx_dct, Mn.atI_1, Mn.atI_2, Mn.atI_3, List.length_map, set_lastM, set_lastL, List.getLast?_concat, List.dropLast_concat, gcn_str, gcn_int, gcn_bl, gcn_non, gcs_str, gcs_int, gcs_bl, gcs_non, gcn_tup, gcs_tup, gcn_lst, gcn_lst1, gcn_lst2, refsL_strs, refsL_nil, refsL_s, refsL_i, refsL_n, refsL_b, refsL_t, refsL_app, ux_slS, ux_addS, ux_iaddS, ux_lenS, ux_ixS, ux_inT2, ux_inT3, findK_nil, findK_cons, putKD_nil, putKD_cons, gx_rvL, gx_rvF, gx_rvT, gx_rvS, gx_repl, ws_no, ux_neB, ux_eqB, txsOf_map, ws_forE, keyOf_str, keyOf_int, joinTx_nil, List.foldl_cons, List.foldl_nil, pD, pks, Pk.get, List.drop_zero, List.drop_succ_cons, List.take_succ_cons, List.take_zero])
    refine form_then ho ?_
    ((try dsimp only); try simp -implicitDefEqProofs only [ws_seq, ws_set, ws_par2, ws_exp, ws_ret, ws_if, ws_tg, ws_nil, ws_aug, thenR_nx, thenR_ret, thenR_bk, thenR_ct, wp_var, wp_con, wp_bin, wp_un, wp_nil, wp_cons, wp_fn, wp_test, wp_and, wp_or, wp_not, wq_andV, wq_orV, bIf_bl, ite_both, ux_mulST, wp_notV, wp_if, wq_chain, wp_call, wp_sl, wp_nopart, wp_part, wp_bm, wp_iter, wp_rng1, wp_rng2, wp_lc, wp_bind, wp_ok, wp_up, Tg.set, setsD, List.getElem?_cons_zero, List.getElem?_cons_succ, List.set_cons_zero, List.set_cons_succ, List.length_cons, List.length_nil, and_self, if_true, reduceCtorEq, Nat.reduceAdd, List.map_cons, List.map_nil, Nat.reduceSub, List.replicate_succ, List.replicate_zero, List.cons_append, List.nil_append, ux_add, ux_iadd, ux_sub, ux_mul, ux_div, ux_mod, ux_pow, ux_neg, ux_eqI, ux_neI, ux_eqS, ux_neS, ux_lt, ux_le, ux_gt, ux_ge, ux_abs, ux_max, ux_min, ux_intI, ux_intB, ux_lst, ux_tup, mulOk_iff, true_or, or_true, ux_lenT, ux_lenF, ux_t0, ux_t1, ux_t2, ux_t3, ux_t4, ux_t5, isB, decide_eq_true_eq, Bool.not_eq_true', decide_eq_false_iff_not, i62, true_and, and_true, if_false, Int.reduceLT, Int.reduceLE, Int.reduceAbs, Nat.reduceLT, Nat.reduceLeDiff, Nat.reducePow, Int.reducePow, Int.reduceToNat, Int.reduceNeg, Nat.reduceEqDiff, or_self, not_true, not_false_eq_true, Bool.not_true, Bool.not_false, decide_true, decide_false, Bool.false_eq_true, len_map1, app2, app3, List.append_assoc, List.length_append, Nat.zero_add, Nat.add_zero, get_newc, get_new1, get_new2, get_new3, set_newc, set_new1, set_new2, it_str, it_tup, it_frl, gx_it, gx_isLs, gx_isTx, gx_len, gx_ixI, gx_ixS, gx_getI, gx_getS, ws_storeP, ws_aug2P, gx_stI, gx_stS, gx_app, gx_pop, gx_rev, gx_cat, gx_catT, gx_sl, gx_slT, gx_slF, gx_join, gx_joinT, gx_tup, gx_tupT, gx_tupF, gx_lst, gx_lstT, gx_lstF, gx_all, gx_notInK, Mn.atI_last, Mn.ixN_last, Mn.atI_0, gx_mulL, gx_mulT, ux_isB, ux_notB, ux_isNN, ux_notNN, ux_isSN, ux_notSN, ux_isIN, ux_notIN, ux_isTN, ux_notTN, ux_isRN, ux_notRN, gx_sort, gx_dct, Mn.atI_1, Mn.atI_2, Mn.atI_3, List.length_map, set_lastM, set_lastL, List.getLast?_concat, List.dropLast_concat, gcn_str, gcn_int, gcn_bl, gcn_non, gcs_str, gcs_int, gcs_bl, gcs_non, gcn_tup, gcs_tup, gcn_lst, gcn_lst1, gcn_lst2, refsL_strs, refsL_nil, refsL_s, refsL_i, refsL_n, refsL_b, refsL_t, refsL_app, ux_slS, ux_addS, ux_iaddS, ux_lenS, ux_ixS, ux_inT2, ux_inT3, findK_nil, findK_cons, putKD_nil, putKD_cons, gx_rvL, gx_rvF, gx_rvT, gx_rvS, gx_repl, ws_no, ux_neB, ux_eqB, txsOf_map, ws_forE, keyOf_str, keyOf_int, joinTx_nil, List.foldl_cons, List.foldl_nil, get_newK, set_newK, List.length_map, ll])
    refine ⟨by omega, ?_⟩
    rw [show D.str (shownR r) :: ((stepsT r n).map D.str ++ [D.str (shownR (o.1, o.2.1, o.2.2))]) = (dueT r o n).map D.str from by
      unfold dueT
      rw [List.map_cons, List.map_append]
      rfl]
    have ds := sum_le (n := 20) (due_each hr ho n)
    have dn : (dueT r o n).length = n + 2 := by
      unfold dueT
      rw [List.length_cons, List.length_append, ll]
      rfl
    have gt : ∀ {m : MH} {q : Reg}, RegOk q → Sh m 1 40 (regD q) (.tuple [.int q.1, .int q.2.1, .str (tx q.2.2)]) := fun h => sh_reg h
    have rnd : (D.tup [.int (stepNR n r).1, .int r.2.1, .str r.2.2]) = regD rn := by
      rw [← hN]
      show D.tup [.int (stepNR n r).1, .int r.2.1, .str r.2.2] = D.tup [.int (stepNR n r).1, .int (stepNR n r).2.1, .str (stepNR n r).2.2]
      rw [stepNR_snd]
    unfold r3_v_law_walk_right
    ((try dsimp only); try simp -implicitDefEqProofs only [ws_seq, ws_set, ws_par2, ws_exp, ws_ret, ws_if, ws_tg, ws_nil, ws_aug, thenR_nx, thenR_ret, thenR_bk, thenR_ct, wp_var, wp_con, wp_bin, wp_un, wp_nil, wp_cons, wp_fn, wp_test, wp_and, wp_or, wp_not, wq_andV, wq_orV, bIf_bl, ite_both, ux_mulST, wp_notV, wp_if, wq_chain, wp_call, wp_sl, wp_nopart, wp_part, wp_bm, wp_iter, wp_rng1, wp_rng2, wp_lc, wp_bind, wp_ok, wp_up, Tg.set, setsD, List.getElem?_cons_zero, List.getElem?_cons_succ, List.set_cons_zero, List.set_cons_succ, List.length_cons, List.length_nil, and_self, if_true, reduceCtorEq, Nat.reduceAdd, List.map_cons, List.map_nil, Nat.reduceSub, List.replicate_succ, List.replicate_zero, List.cons_append, List.nil_append, ux_add, ux_iadd, ux_sub, ux_mul, ux_div, ux_mod, ux_pow, ux_neg, ux_eqI, ux_neI, ux_eqS, ux_neS, ux_lt, ux_le, ux_gt, ux_ge, ux_abs, ux_max, ux_min, ux_intI, ux_intB, ux_lst, ux_tup, mulOk_iff, true_or, or_true, ux_lenT, ux_lenF, ux_t0, ux_t1, ux_t2, ux_t3, ux_t4, ux_t5, isB, decide_eq_true_eq, Bool.not_eq_true', decide_eq_false_iff_not, i62, true_and, and_true, if_false, Int.reduceLT, Int.reduceLE, Int.reduceAbs, Nat.reduceLT, Nat.reduceLeDiff, Nat.reducePow, Int.reducePow, Int.reduceToNat, Int.reduceNeg, Nat.reduceEqDiff, or_self, not_true, not_false_eq_true, Bool.not_true, Bool.not_false, decide_true, decide_false, Bool.false_eq_true, len_map1, app2, app3, List.append_assoc, List.length_append, Nat.zero_add, Nat.add_zero, get_newc, get_new1, get_new2, get_new3, set_newc, set_new1, set_new2, it_str, it_tup, it_frl, gx_it, gx_isLs, gx_isTx, gx_len, gx_ixI, gx_ixS, gx_getI, gx_getS, ws_storeP, ws_aug2P, gx_stI, gx_stS, gx_app, gx_pop, gx_rev, gx_cat, gx_catT, gx_sl, gx_slT, gx_slF, gx_join, gx_joinT, gx_tup, gx_tupT, gx_tupF, gx_lst, gx_lstT, gx_lstF, gx_all, gx_notInK, Mn.atI_last, Mn.ixN_last, Mn.atI_0, gx_mulL, gx_mulT, ux_isB, ux_notB, ux_isNN, ux_notNN, ux_isSN, ux_notSN, ux_isIN, ux_notIN, ux_isTN, ux_notTN, ux_isRN, ux_notRN, gx_sort, gx_dct, Mn.atI_1, Mn.atI_2, Mn.atI_3, List.length_map, set_lastM, set_lastL, List.getLast?_concat, List.dropLast_concat, gcn_str, gcn_int, gcn_bl, gcn_non, gcs_str, gcs_int, gcs_bl, gcs_non, gcn_tup, gcs_tup, gcn_lst, gcn_lst1, gcn_lst2, refsL_strs, refsL_nil, refsL_s, refsL_i, refsL_n, refsL_b, refsL_t, refsL_app, ux_slS, ux_addS, ux_iaddS, ux_lenS, ux_ixS, ux_inT2, ux_inT3, findK_nil, findK_cons, putKD_nil, putKD_cons, gx_rvL, gx_rvF, gx_rvT, gx_rvS, gx_repl, ws_no, ux_neB, ux_eqB, txsOf_map, ws_forE, keyOf_str, keyOf_int, joinTx_nil, List.foldl_cons, List.foldl_nil, get_newK, List.length_map, dn, Nat.mul_one, hT])
    refine ⟨by omega, ?_⟩
    have ok2 : RegOk rn := by
      rw [← hN]
      exact rn_ok
    rw [rnd, find_dK, getL_a]
    show wp (up (neD (regD rn) (regD rn) _)) _
    rw [ux_neSh (gt ok2) (gt ok2) (by omega) (by omega) (by omega) (by omega)]
    ((try dsimp only); try simp -implicitDefEqProofs only [ws_seq, ws_set, ws_par2, ws_exp, ws_ret, ws_if, ws_tg, ws_nil, ws_aug, thenR_nx, thenR_ret, thenR_bk, thenR_ct, wp_var, wp_con, wp_bin, wp_un, wp_nil, wp_cons, wp_fn, wp_test, wp_and, wp_or, wp_not, wq_andV, wq_orV, bIf_bl, ite_both, ux_mulST, wp_notV, wp_if, wq_chain, wp_call, wp_sl, wp_nopart, wp_part, wp_bm, wp_iter, wp_rng1, wp_rng2, wp_lc, wp_bind, wp_ok, wp_up, Tg.set, setsD, List.getElem?_cons_zero, List.getElem?_cons_succ, List.set_cons_zero, List.set_cons_succ, List.length_cons, List.length_nil, and_self, if_true, reduceCtorEq, Nat.reduceAdd, List.map_cons, List.map_nil, Nat.reduceSub, List.replicate_succ, List.replicate_zero, List.cons_append, List.nil_append, ux_add, ux_iadd, ux_sub, ux_mul, ux_div, ux_mod, ux_pow, ux_neg, ux_eqI, ux_neI, ux_eqS, ux_neS, ux_lt, ux_le, ux_gt, ux_ge, ux_abs, ux_max, ux_min, ux_intI, ux_intB, ux_lst, ux_tup, mulOk_iff, true_or, or_true, ux_lenT, ux_lenF, ux_t0, ux_t1, ux_t2, ux_t3, ux_t4, ux_t5, isB, decide_eq_true_eq, Bool.not_eq_true', decide_eq_false_iff_not, i62, true_and, and_true, if_false, Int.reduceLT, Int.reduceLE, Int.reduceAbs, Nat.reduceLT, Nat.reduceLeDiff, Nat.reducePow, Int.reducePow, Int.reduceToNat, Int.reduceNeg, Nat.reduceEqDiff, or_self, not_true, not_false_eq_true, Bool.not_true, Bool.not_false, decide_true, decide_false, Bool.false_eq_true, len_map1, app2, app3, List.append_assoc, List.length_append, Nat.zero_add, Nat.add_zero, get_newc, get_new1, get_new2, get_new3, set_newc, set_new1, set_new2, it_str, it_tup, it_frl, gx_it, gx_isLs, gx_isTx, gx_len, gx_ixI, gx_ixS, gx_getI, gx_getS, ws_storeP, ws_aug2P, gx_stI, gx_stS, gx_app, gx_pop, gx_rev, gx_cat, gx_catT, gx_sl, gx_slT, gx_slF, gx_join, gx_joinT, gx_tup, gx_tupT, gx_tupF, gx_lst, gx_lstT, gx_lstF, gx_all, gx_notInK, Mn.atI_last, Mn.ixN_last, Mn.atI_0, gx_mulL, gx_mulT, ux_isB, ux_notB, ux_isNN, ux_notNN, ux_isSN, ux_notSN, ux_isIN, ux_notIN, ux_isTN, ux_notTN, ux_isRN, ux_notRN, gx_sort, gx_dct, Mn.atI_1, Mn.atI_2, Mn.atI_3, List.length_map, set_lastM, set_lastL, List.getLast?_concat, List.dropLast_concat, gcn_str, gcn_int, gcn_bl, gcn_non, gcs_str, gcs_int, gcs_bl, gcs_non, gcn_tup, gcs_tup, gcn_lst, gcn_lst1, gcn_lst2, refsL_strs, refsL_nil, refsL_s, refsL_i, refsL_n, refsL_b, refsL_t, refsL_app, ux_slS, ux_addS, ux_iaddS, ux_lenS, ux_ixS, ux_inT2, ux_inT3, findK_nil, findK_cons, putKD_nil, putKD_cons, gx_rvL, gx_rvF, gx_rvT, gx_rvS, gx_repl, ws_no, ux_neB, ux_eqB, txsOf_map, ws_forE, keyOf_str, keyOf_int, joinTx_nil, List.foldl_cons, List.foldl_nil, get_newK, find_dK, getL_o, Option.map_some])
    rw [ux_neSh (gt ho) (gt ho) (by omega) (by omega) (by omega) (by omega)]
    ((try dsimp only); try simp -implicitDefEqProofs only [ws_seq, ws_set, ws_par2, ws_exp, ws_ret, ws_if, ws_tg, ws_nil, ws_aug, thenR_nx, thenR_ret, thenR_bk, thenR_ct, wp_var, wp_con, wp_bin, wp_un, wp_nil, wp_cons, wp_fn, wp_test, wp_and, wp_or, wp_not, wq_andV, wq_orV, bIf_bl, ite_both, ux_mulST, wp_notV, wp_if, wq_chain, wp_call, wp_sl, wp_nopart, wp_part, wp_bm, wp_iter, wp_rng1, wp_rng2, wp_lc, wp_bind, wp_ok, wp_up, Tg.set, setsD, List.getElem?_cons_zero, List.getElem?_cons_succ, List.set_cons_zero, List.set_cons_succ, List.length_cons, List.length_nil, and_self, if_true, reduceCtorEq, Nat.reduceAdd, List.map_cons, List.map_nil, Nat.reduceSub, List.replicate_succ, List.replicate_zero, List.cons_append, List.nil_append, ux_add, ux_iadd, ux_sub, ux_mul, ux_div, ux_mod, ux_pow, ux_neg, ux_eqI, ux_neI, ux_eqS, ux_neS, ux_lt, ux_le, ux_gt, ux_ge, ux_abs, ux_max, ux_min, ux_intI, ux_intB, ux_lst, ux_tup, mulOk_iff, true_or, or_true, ux_lenT, ux_lenF, ux_t0, ux_t1, ux_t2, ux_t3, ux_t4, ux_t5, isB, decide_eq_true_eq, Bool.not_eq_true', decide_eq_false_iff_not, i62, true_and, and_true, if_false, Int.reduceLT, Int.reduceLE, Int.reduceAbs, Nat.reduceLT, Nat.reduceLeDiff, Nat.reducePow, Int.reducePow, Int.reduceToNat, Int.reduceNeg, Nat.reduceEqDiff, or_self, not_true, not_false_eq_true, Bool.not_true, Bool.not_false, decide_true, decide_false, Bool.false_eq_true, len_map1, app2, app3, List.append_assoc, List.length_append, Nat.zero_add, Nat.add_zero, get_newc, get_new1, get_new2, get_new3, set_newc, set_new1, set_new2, it_str, it_tup, it_frl, gx_it, gx_isLs, gx_isTx, gx_len, gx_ixI, gx_ixS, gx_getI, gx_getS, ws_storeP, ws_aug2P, gx_stI, gx_stS, gx_app, gx_pop, gx_rev, gx_cat, gx_catT, gx_sl, gx_slT, gx_slF, gx_join, gx_joinT, gx_tup, gx_tupT, gx_tupF, gx_lst, gx_lstT, gx_lstF, gx_all, gx_notInK, Mn.atI_last, Mn.ixN_last, Mn.atI_0, gx_mulL, gx_mulT, ux_isB, ux_notB, ux_isNN, ux_notNN, ux_isSN, ux_notSN, ux_isIN, ux_notIN, ux_isTN, ux_notTN, ux_isRN, ux_notRN, gx_sort, gx_dct, Mn.atI_1, Mn.atI_2, Mn.atI_3, List.length_map, set_lastM, set_lastL, List.getLast?_concat, List.dropLast_concat, gcn_str, gcn_int, gcn_bl, gcn_non, gcs_str, gcs_int, gcs_bl, gcs_non, gcn_tup, gcs_tup, gcn_lst, gcn_lst1, gcn_lst2, refsL_strs, refsL_nil, refsL_s, refsL_i, refsL_n, refsL_b, refsL_t, refsL_app, ux_slS, ux_addS, ux_iaddS, ux_lenS, ux_ixS, ux_inT2, ux_inT3, findK_nil, findK_cons, putKD_nil, putKD_cons, gx_rvL, gx_rvF, gx_rvT, gx_rvS, gx_repl, ws_no, ux_neB, ux_eqB, txsOf_map, ws_forE, keyOf_str, keyOf_int, joinTx_nil, List.foldl_cons, List.foldl_nil])
    unfold r2_v_law_walk_right
    ((try dsimp only); try simp -implicitDefEqProofs only [ws_seq, ws_set, ws_par2, ws_exp, ws_ret, ws_if, ws_tg, ws_nil, ws_aug, thenR_nx, thenR_ret, thenR_bk, thenR_ct, wp_var, wp_con, wp_bin, wp_un, wp_nil, wp_cons, wp_fn, wp_test, wp_and, wp_or, wp_not, wq_andV, wq_orV, bIf_bl, ite_both, ux_mulST, wp_notV, wp_if, wq_chain, wp_call, wp_sl, wp_nopart, wp_part, wp_bm, wp_iter, wp_rng1, wp_rng2, wp_lc, wp_bind, wp_ok, wp_up, Tg.set, setsD, List.getElem?_cons_zero, List.getElem?_cons_succ, List.set_cons_zero, List.set_cons_succ, List.length_cons, List.length_nil, and_self, if_true, reduceCtorEq, Nat.reduceAdd, List.map_cons, List.map_nil, Nat.reduceSub, List.replicate_succ, List.replicate_zero, List.cons_append, List.nil_append, ux_add, ux_iadd, ux_sub, ux_mul, ux_div, ux_mod, ux_pow, ux_neg, ux_eqI, ux_neI, ux_eqS, ux_neS, ux_lt, ux_le, ux_gt, ux_ge, ux_abs, ux_max, ux_min, ux_intI, ux_intB, ux_lst, ux_tup, mulOk_iff, true_or, or_true, ux_lenT, ux_lenF, ux_t0, ux_t1, ux_t2, ux_t3, ux_t4, ux_t5, isB, decide_eq_true_eq, Bool.not_eq_true', decide_eq_false_iff_not, i62, true_and, and_true, if_false, Int.reduceLT, Int.reduceLE, Int.reduceAbs, Nat.reduceLT, Nat.reduceLeDiff, Nat.reducePow, Int.reducePow, Int.reduceToNat, Int.reduceNeg, Nat.reduceEqDiff, or_self, not_true, not_false_eq_true, Bool.not_true, Bool.not_false, decide_true, decide_false, Bool.false_eq_true, len_map1, app2, app3, List.append_assoc, List.length_append, Nat.zero_add, Nat.add_zero, get_newc, get_new1, get_new2, get_new3, set_newc, set_new1, set_new2, it_str, it_tup, it_frl, gx_it, gx_isLs, gx_isTx, gx_len, gx_ixI, gx_ixS, gx_getI, gx_getS, ws_storeP, ws_aug2P, gx_stI, gx_stS, gx_app, gx_pop, gx_rev, gx_cat, gx_catT, gx_sl, gx_slT, gx_slF, gx_join, gx_joinT, gx_tup, gx_tupT, gx_tupF, gx_lst, gx_lstT, gx_lstF, gx_all, gx_notInK, Mn.atI_last, Mn.ixN_last, Mn.atI_0, gx_mulL, gx_mulT, ux_isB, ux_notB, ux_isNN, ux_notNN, ux_isSN, ux_notSN, ux_isIN, ux_notIN, ux_isTN, ux_notTN, ux_isRN, ux_notRN, gx_sort, gx_dct, Mn.atI_1, Mn.atI_2, Mn.atI_3, List.length_map, set_lastM, set_lastL, List.getLast?_concat, List.dropLast_concat, gcn_str, gcn_int, gcn_bl, gcn_non, gcs_str, gcs_int, gcs_bl, gcs_non, gcn_tup, gcs_tup, gcn_lst, gcn_lst1, gcn_lst2, refsL_strs, refsL_nil, refsL_s, refsL_i, refsL_n, refsL_b, refsL_t, refsL_app, ux_slS, ux_addS, ux_iaddS, ux_lenS, ux_ixS, ux_inT2, ux_inT3, findK_nil, findK_cons, putKD_nil, putKD_cons, gx_rvL, gx_rvF, gx_rvT, gx_rvS, gx_repl, ws_no, ux_neB, ux_eqB, txsOf_map, ws_forE, keyOf_str, keyOf_int, joinTx_nil, List.foldl_cons, List.foldl_nil, pD, pks, Pk.get, List.drop_zero, List.drop_succ_cons, List.take_succ_cons, List.take_zero, wx_dict0])
    have sl := shownR_len ok2
    have pf2 : putF [] [] [92, 82, 40, 97, 41] (Rg rn o) = (shownR rn, Rg rn o) := by
      unfold putF
      have := put_ask (T := told [] []) (inn := [97]) (y := []) (.inl rfl) (by decide) (told_a rn o)
      rw [putAll_nil, List.append_nil] at this
      rw [show ([92, 82, 40, 97, 41] : Mn.Tx) = 92 :: 82 :: 40 :: ([97] ++ 41 :: []) from rfl, this]
      dsimp only
      rw [List.take_of_length_le (by omega)]
    refine put_in_then (R := Rg rn o) (S := []) (A := []) (get_newK 2) (get_newK 4) (Rg_ok ok2 ho) (show 2 ≤ 1000 by decide) K (by decide) ?_
    rw [pf2]
    ((try dsimp only); try simp -implicitDefEqProofs only [ws_seq, ws_set, ws_par2, ws_exp, ws_ret, ws_if, ws_tg, ws_nil, ws_aug, thenR_nx, thenR_ret, thenR_bk, thenR_ct, wp_var, wp_con, wp_bin, wp_un, wp_nil, wp_cons, wp_fn, wp_test, wp_and, wp_or, wp_not, wq_andV, wq_orV, bIf_bl, ite_both, ux_mulST, wp_notV, wp_if, wq_chain, wp_call, wp_sl, wp_nopart, wp_part, wp_bm, wp_iter, wp_rng1, wp_rng2, wp_lc, wp_bind, wp_ok, wp_up, Tg.set, setsD, List.getElem?_cons_zero, List.getElem?_cons_succ, List.set_cons_zero, List.set_cons_succ, List.length_cons, List.length_nil, and_self, if_true, reduceCtorEq, Nat.reduceAdd, List.map_cons, List.map_nil, Nat.reduceSub, List.replicate_succ, List.replicate_zero, List.cons_append, List.nil_append, ux_add, ux_iadd, ux_sub, ux_mul, ux_div, ux_mod, ux_pow, ux_neg, ux_eqI, ux_neI, ux_eqS, ux_neS, ux_lt, ux_le, ux_gt, ux_ge, ux_abs, ux_max, ux_min, ux_intI, ux_intB, ux_lst, ux_tup, mulOk_iff, true_or, or_true, ux_lenT, ux_lenF, ux_t0, ux_t1, ux_t2, ux_t3, ux_t4, ux_t5, isB, decide_eq_true_eq, Bool.not_eq_true', decide_eq_false_iff_not, i62, true_and, and_true, if_false, Int.reduceLT, Int.reduceLE, Int.reduceAbs, Nat.reduceLT, Nat.reduceLeDiff, Nat.reducePow, Int.reducePow, Int.reduceToNat, Int.reduceNeg, Nat.reduceEqDiff, or_self, not_true, not_false_eq_true, Bool.not_true, Bool.not_false, decide_true, decide_false, Bool.false_eq_true, len_map1, app2, app3, List.append_assoc, List.length_append, Nat.zero_add, Nat.add_zero, get_newc, get_new1, get_new2, get_new3, set_newc, set_new1, set_new2, it_str, it_tup, it_frl, gx_it, gx_isLs, gx_isTx, gx_len, gx_ixI, gx_ixS, gx_getI, gx_getS, ws_storeP, ws_aug2P, gx_stI, gx_stS, gx_app, gx_pop, gx_rev, gx_cat, gx_catT, gx_sl, gx_slT, gx_slF, gx_join, gx_joinT, gx_tup, gx_tupT, gx_tupF, gx_lst, gx_lstT, gx_lstF, gx_all, gx_notInK, Mn.atI_last, Mn.ixN_last, Mn.atI_0, gx_mulL, gx_mulT, ux_isB, ux_notB, ux_isNN, ux_notNN, ux_isSN, ux_notSN, ux_isIN, ux_notIN, ux_isTN, ux_notTN, ux_isRN, ux_notRN, gx_sort, gx_dct, Mn.atI_1, Mn.atI_2, Mn.atI_3, List.length_map, set_lastM, set_lastL, List.getLast?_concat, List.dropLast_concat, gcn_str, gcn_int, gcn_bl, gcn_non, gcs_str, gcs_int, gcs_bl, gcs_non, gcn_tup, gcs_tup, gcn_lst, gcn_lst1, gcn_lst2, refsL_strs, refsL_nil, refsL_s, refsL_i, refsL_n, refsL_b, refsL_t, refsL_app, ux_slS, ux_addS, ux_iaddS, ux_lenS, ux_ixS, ux_inT2, ux_inT3, findK_nil, findK_cons, putKD_nil, putKD_cons, gx_rvL, gx_rvF, gx_rvT, gx_rvS, gx_repl, ws_no, ux_neB, ux_eqB, txsOf_map, ws_forE, keyOf_str, keyOf_int, joinTx_nil, List.foldl_cons, List.foldl_nil])
    unfold r1_v_law_walk_right
    ((try dsimp only); try simp -implicitDefEqProofs only [ws_seq, ws_set, ws_par2, ws_exp, ws_ret, ws_if, ws_tg, ws_nil, ws_aug, thenR_nx, thenR_ret, thenR_bk, thenR_ct, wp_var, wp_con, wp_bin, wp_un, wp_nil, wp_cons, wp_fn, wp_test, wp_and, wp_or, wp_not, wq_andV, wq_orV, bIf_bl, ite_both, ux_mulST, wp_notV, wp_if, wq_chain, wp_call, wp_sl, wp_nopart, wp_part, wp_bm, wp_iter, wp_rng1, wp_rng2, wp_lc, wp_bind, wp_ok, wp_up, Tg.set, setsD, List.getElem?_cons_zero, List.getElem?_cons_succ, List.set_cons_zero, List.set_cons_succ, List.length_cons, List.length_nil, and_self, if_true, reduceCtorEq, Nat.reduceAdd, List.map_cons, List.map_nil, Nat.reduceSub, List.replicate_succ, List.replicate_zero, List.cons_append, List.nil_append, ux_add, ux_iadd, ux_sub, ux_mul, ux_div, ux_mod, ux_pow, ux_neg, ux_eqI, ux_neI, ux_eqS, ux_neS, ux_lt, ux_le, ux_gt, ux_ge, ux_abs, ux_max, ux_min, ux_intI, ux_intB, ux_lst, ux_tup, mulOk_iff, true_or, or_true, ux_lenT, ux_lenF, ux_t0, ux_t1, ux_t2, ux_t3, ux_t4, ux_t5, isB, decide_eq_true_eq, Bool.not_eq_true', decide_eq_false_iff_not, i62, true_and, and_true, if_false, Int.reduceLT, Int.reduceLE, Int.reduceAbs, Nat.reduceLT, Nat.reduceLeDiff, Nat.reducePow, Int.reducePow, Int.reduceToNat, Int.reduceNeg, Nat.reduceEqDiff, or_self, not_true, not_false_eq_true, Bool.not_true, Bool.not_false, decide_true, decide_false, Bool.false_eq_true, len_map1, app2, app3, List.append_assoc, List.length_append, Nat.zero_add, Nat.add_zero, get_newc, get_new1, get_new2, get_new3, set_newc, set_new1, set_new2, it_str, it_tup, it_frl, gx_it, gx_isLs, gx_isTx, gx_len, gx_ixI, gx_ixS, gx_getI, gx_getS, ws_storeP, ws_aug2P, gx_stI, gx_stS, gx_app, gx_pop, gx_rev, gx_cat, gx_catT, gx_sl, gx_slT, gx_slF, gx_join, gx_joinT, gx_tup, gx_tupT, gx_tupF, gx_lst, gx_lstT, gx_lstF, gx_all, gx_notInK, Mn.atI_last, Mn.ixN_last, Mn.atI_0, gx_mulL, gx_mulT, ux_isB, ux_notB, ux_isNN, ux_notNN, ux_isSN, ux_notSN, ux_isIN, ux_notIN, ux_isTN, ux_notTN, ux_isRN, ux_notRN, gx_sort, gx_dct, Mn.atI_1, Mn.atI_2, Mn.atI_3, List.length_map, set_lastM, set_lastL, List.getLast?_concat, List.dropLast_concat, gcn_str, gcn_int, gcn_bl, gcn_non, gcs_str, gcs_int, gcs_bl, gcs_non, gcn_tup, gcs_tup, gcn_lst, gcn_lst1, gcn_lst2, refsL_strs, refsL_nil, refsL_s, refsL_i, refsL_n, refsL_b, refsL_t, refsL_app, ux_slS, ux_addS, ux_iaddS, ux_lenS, ux_ixS, ux_inT2, ux_inT3, findK_nil, findK_cons, putKD_nil, putKD_cons, gx_rvL, gx_rvF, gx_rvT, gx_rvS, gx_repl, ws_no, ux_neB, ux_eqB, txsOf_map, ws_forE, keyOf_str, keyOf_int, joinTx_nil, List.foldl_cons, List.foldl_nil, pD, pks, Pk.get, List.drop_zero, List.drop_succ_cons, List.take_succ_cons, List.take_zero, get_newK, find_dK, getL_o, Option.map_some])
    rw [ux_eqSh (gt ho) (gt ho) (by omega) (by omega) (by omega) (by omega)]
    ((try dsimp only); try simp -implicitDefEqProofs only [ws_seq, ws_set, ws_par2, ws_exp, ws_ret, ws_if, ws_tg, ws_nil, ws_aug, thenR_nx, thenR_ret, thenR_bk, thenR_ct, wp_var, wp_con, wp_bin, wp_un, wp_nil, wp_cons, wp_fn, wp_test, wp_and, wp_or, wp_not, wq_andV, wq_orV, bIf_bl, ite_both, ux_mulST, wp_notV, wp_if, wq_chain, wp_call, wp_sl, wp_nopart, wp_part, wp_bm, wp_iter, wp_rng1, wp_rng2, wp_lc, wp_bind, wp_ok, wp_up, Tg.set, setsD, List.getElem?_cons_zero, List.getElem?_cons_succ, List.set_cons_zero, List.set_cons_succ, List.length_cons, List.length_nil, and_self, if_true, reduceCtorEq, Nat.reduceAdd, List.map_cons, List.map_nil, Nat.reduceSub, List.replicate_succ, List.replicate_zero, List.cons_append, List.nil_append, ux_add, ux_iadd, ux_sub, ux_mul, ux_div, ux_mod, ux_pow, ux_neg, ux_eqI, ux_neI, ux_eqS, ux_neS, ux_lt, ux_le, ux_gt, ux_ge, ux_abs, ux_max, ux_min, ux_intI, ux_intB, ux_lst, ux_tup, mulOk_iff, true_or, or_true, ux_lenT, ux_lenF, ux_t0, ux_t1, ux_t2, ux_t3, ux_t4, ux_t5, isB, decide_eq_true_eq, Bool.not_eq_true', decide_eq_false_iff_not, i62, true_and, and_true, if_false, Int.reduceLT, Int.reduceLE, Int.reduceAbs, Nat.reduceLT, Nat.reduceLeDiff, Nat.reducePow, Int.reducePow, Int.reduceToNat, Int.reduceNeg, Nat.reduceEqDiff, or_self, not_true, not_false_eq_true, Bool.not_true, Bool.not_false, decide_true, decide_false, Bool.false_eq_true, len_map1, app2, app3, List.append_assoc, List.length_append, Nat.zero_add, Nat.add_zero, get_newc, get_new1, get_new2, get_new3, set_newc, set_new1, set_new2, it_str, it_tup, it_frl, gx_it, gx_isLs, gx_isTx, gx_len, gx_ixI, gx_ixS, gx_getI, gx_getS, ws_storeP, ws_aug2P, gx_stI, gx_stS, gx_app, gx_pop, gx_rev, gx_cat, gx_catT, gx_sl, gx_slT, gx_slF, gx_join, gx_joinT, gx_tup, gx_tupT, gx_tupF, gx_lst, gx_lstT, gx_lstF, gx_all, gx_notInK, Mn.atI_last, Mn.ixN_last, Mn.atI_0, gx_mulL, gx_mulT, ux_isB, ux_notB, ux_isNN, ux_notNN, ux_isSN, ux_notSN, ux_isIN, ux_notIN, ux_isTN, ux_notTN, ux_isRN, ux_notRN, gx_sort, gx_dct, Mn.atI_1, Mn.atI_2, Mn.atI_3, List.length_map, set_lastM, set_lastL, List.getLast?_concat, List.dropLast_concat, gcn_str, gcn_int, gcn_bl, gcn_non, gcs_str, gcs_int, gcs_bl, gcs_non, gcn_tup, gcs_tup, gcn_lst, gcn_lst1, gcn_lst2, refsL_strs, refsL_nil, refsL_s, refsL_i, refsL_n, refsL_b, refsL_t, refsL_app, ux_slS, ux_addS, ux_iaddS, ux_lenS, ux_ixS, ux_inT2, ux_inT3, findK_nil, findK_cons, putKD_nil, putKD_cons, gx_rvL, gx_rvF, gx_rvT, gx_rvS, gx_repl, ws_no, ux_neB, ux_eqB, txsOf_map, ws_forE, keyOf_str, keyOf_int, joinTx_nil, List.foldl_cons, List.foldl_nil])
    have ok3 : RegOk ((stepNR n r).1, r.2.1, r.2.2) := by
      rw [step_all]
      exact rn_ok
    refine form_then ok3 ?_
    rw [step_all, hN]
    rw [ux_eqSameT (pair_none (get_newK 5)) (same_pair (Rg_ok ok2 ho).nd (get_newK 5) (get_newK 2))]
    ((try dsimp only); try simp -implicitDefEqProofs only [ws_seq, ws_set, ws_par2, ws_exp, ws_ret, ws_if, ws_tg, ws_nil, ws_aug, thenR_nx, thenR_ret, thenR_bk, thenR_ct, wp_var, wp_con, wp_bin, wp_un, wp_nil, wp_cons, wp_fn, wp_test, wp_and, wp_or, wp_not, wq_andV, wq_orV, bIf_bl, ite_both, ux_mulST, wp_notV, wp_if, wq_chain, wp_call, wp_sl, wp_nopart, wp_part, wp_bm, wp_iter, wp_rng1, wp_rng2, wp_lc, wp_bind, wp_ok, wp_up, Tg.set, setsD, List.getElem?_cons_zero, List.getElem?_cons_succ, List.set_cons_zero, List.set_cons_succ, List.length_cons, List.length_nil, and_self, if_true, reduceCtorEq, Nat.reduceAdd, List.map_cons, List.map_nil, Nat.reduceSub, List.replicate_succ, List.replicate_zero, List.cons_append, List.nil_append, ux_add, ux_iadd, ux_sub, ux_mul, ux_div, ux_mod, ux_pow, ux_neg, ux_eqI, ux_neI, ux_eqS, ux_neS, ux_lt, ux_le, ux_gt, ux_ge, ux_abs, ux_max, ux_min, ux_intI, ux_intB, ux_lst, ux_tup, mulOk_iff, true_or, or_true, ux_lenT, ux_lenF, ux_t0, ux_t1, ux_t2, ux_t3, ux_t4, ux_t5, isB, decide_eq_true_eq, Bool.not_eq_true', decide_eq_false_iff_not, i62, true_and, and_true, if_false, Int.reduceLT, Int.reduceLE, Int.reduceAbs, Nat.reduceLT, Nat.reduceLeDiff, Nat.reducePow, Int.reducePow, Int.reduceToNat, Int.reduceNeg, Nat.reduceEqDiff, or_self, not_true, not_false_eq_true, Bool.not_true, Bool.not_false, decide_true, decide_false, Bool.false_eq_true, len_map1, app2, app3, List.append_assoc, List.length_append, Nat.zero_add, Nat.add_zero, get_newc, get_new1, get_new2, get_new3, set_newc, set_new1, set_new2, it_str, it_tup, it_frl, gx_it, gx_isLs, gx_isTx, gx_len, gx_ixI, gx_ixS, gx_getI, gx_getS, ws_storeP, ws_aug2P, gx_stI, gx_stS, gx_app, gx_pop, gx_rev, gx_cat, gx_catT, gx_sl, gx_slT, gx_slF, gx_join, gx_joinT, gx_tup, gx_tupT, gx_tupF, gx_lst, gx_lstT, gx_lstF, gx_all, gx_notInK, Mn.atI_last, Mn.ixN_last, Mn.atI_0, gx_mulL, gx_mulT, ux_isB, ux_notB, ux_isNN, ux_notNN, ux_isSN, ux_notSN, ux_isIN, ux_notIN, ux_isTN, ux_notTN, ux_isRN, ux_notRN, gx_sort, gx_dct, Mn.atI_1, Mn.atI_2, Mn.atI_3, List.length_map, set_lastM, set_lastL, List.getLast?_concat, List.dropLast_concat, gcn_str, gcn_int, gcn_bl, gcn_non, gcs_str, gcs_int, gcs_bl, gcs_non, gcn_tup, gcs_tup, gcn_lst, gcn_lst1, gcn_lst2, refsL_strs, refsL_nil, refsL_s, refsL_i, refsL_n, refsL_b, refsL_t, refsL_app, ux_slS, ux_addS, ux_iaddS, ux_lenS, ux_ixS, ux_inT2, ux_inT3, findK_nil, findK_cons, putKD_nil, putKD_cons, gx_rvL, gx_rvF, gx_rvT, gx_rvS, gx_repl, ws_no, ux_neB, ux_eqB, txsOf_map, ws_forE, keyOf_str, keyOf_int, joinTx_nil, List.foldl_cons, List.foldl_nil])
    exact q
end Lw
end

section
namespace Lw
open PySem PySem.Spec PyProof.Rows L2 Mn
set_option maxHeartbeats 4000000
def Rab (r : Reg) : Regs := [([97, 98], r)]
theorem told_ab (r : Reg) : told [] [] 82 [97, 98] (Rab r) = (some (shownR r), Rab r) := by
  show toldR [97, 98] (Rab r) = _
  have e1 : nameOf [97, 98] = [97, 98] := by decide
  have e2 : regsBy [97, 98] (Rab r) = Rab r := by
    unfold regsBy
    rw [if_neg (by decide)]
  have e3 : regOf (Rab r) [97, 98] = r := by
    unfold regOf Rab getL
    rw [if_pos rfl]
    rfl
  unfold toldR
  rw [e1, e2, e3, if_pos (by decide)]
theorem sh_rab {m : MH} {a : Nat} {q : Reg} (hm : m[a]? = some (.dct (dK regD (Rab q)))) (h : RegOk q) : ShX m 2 100 49 (.ref a) (.dict [(.str (tx [97, 98]), .tuple [.int q.1, .int q.2.1, .str (tx q.2.2)])]) := by
  have hv := h.v
  have hs := h.s
  obtain ⟨f1, f2⟩ := form_ok h.f
  have t : ShX m 1 40 48 (regD q) (.tuple [.int q.1, .int q.2.1, .str (tx q.2.2)]) := ShX.tup (k := 0) (n := 47) (.cons (w1 := 2) (w2 := 20) (.int (by omega) (by omega)) (.cons (w1 := 2) (w2 := 10) (.int (by omega) (by omega)) (.cons (w1 := 2) (w2 := 0) (.str f2 f1) .nil (by omega)) (by omega)) (by omega))
  exact ShX.dct (k := 1) (n := 48) hm (.cons (x := [97, 98]) (w1 := 40) (w2 := 0) (w3 := 3) (show ∀ c ∈ ([97, 98] : List Nat), c < 0x110000 by decide) (show ([97, 98] : List Nat).length ≤ 3 by decide) t .nil (by omega))
theorem K0 : PutOk [] [] := ⟨(fun p hp => nomatch hp), (fun p hp => nomatch hp), by decide⟩
theorem Rab_nd (r : Reg) : NoTwice (Rab r) := by unfold NoTwice Rab; simp
theorem value_lap {m : MH} {v : Int} {f : Mn.Tx} {v0 v1 v2 v4 v6 v7 v8 v9 : Option D} {R : Fl → Mn.Fr → MH → Prop} (hv : -9999 ≤ v ∧ v ≤ 9999) (hf : FormOk f)
    (q : ∀ g v8 v9, R .nx [v0, v1, v2, some (.str f), v4, some (.int v), v6, v7, v8, v9] (m ++ g)) :
    ws (l8_law [v0, v1, v2, some (.str f), v4, some (.int v), v6, v7, v8, v9] m) R := by
  have ok : RegOk (v, 3, f) := ⟨hv, ⟨by show (-9999 : Int) ≤ 3; omega, by show (3 : Int) ≤ 9999; omega⟩, hf⟩
  have okR : RegsOk (Rab (v, 3, f)) := ⟨Rab_nd _, fun p hp => by
    rw [List.mem_singleton.mp hp]
    exact ok⟩
  have sl := shownR_len ok
  have so : ∀ c ∈ shownR (v, 3, f), c < 0x110000 := (shownT_ok (v := v) (f := f) ⟨by omega, by omega⟩).2
  have pf : putF [] [] [92, 82, 40, 97, 98, 41] (Rab (v, 3, f)) = (shownR (v, 3, f), Rab (v, 3, f)) := by
    unfold putF
    have := put_ask (T := told [] []) (inn := [97, 98]) (y := []) (.inl rfl) (by decide) (told_ab (v, 3, f))
    rw [putAll_nil, List.append_nil] at this
    rw [show ([92, 82, 40, 97, 98, 41] : Mn.Tx) = 92 :: 82 :: 40 :: ([97, 98] ++ 41 :: []) from rfl, this]
    dsimp only
    rw [List.take_of_length_le (by omega)]
  unfold l8_law
  ((try dsimp only); try simp -implicitDefEqProofs only [ws_seq, ws_set, ws_par2, ws_exp, ws_ret, ws_if, ws_tg, ws_nil, ws_aug, thenR_nx, thenR_ret, thenR_bk, thenR_ct, wp_var, wp_con, wp_bin, wp_un, wp_nil, wp_cons, wp_fn, wp_test, wp_and, wp_or, wp_not, wq_andV, wq_orV, bIf_bl, ite_both, ux_mulST, wp_notV, wp_if, wq_chain, wp_call, wp_sl, wp_nopart, wp_part, wp_bm, wp_iter, wp_rng1, wp_rng2, wp_lc, wp_bind, wp_ok, wp_up, Tg.set, setsD, List.getElem?_cons_zero, List.getElem?_cons_succ, List.set_cons_zero, List.set_cons_succ, List.length_cons, List.length_nil, and_self, if_true, reduceCtorEq, Nat.reduceAdd, List.map_cons, List.map_nil, Nat.reduceSub, List.replicate_succ, List.replicate_zero, List.cons_append, List.nil_append, ux_add, ux_iadd, ux_sub, ux_mul, ux_div, ux_mod, ux_pow, ux_neg, ux_eqI, ux_neI, ux_eqS, ux_neS, ux_lt, ux_le, ux_gt, ux_ge, ux_abs, ux_max, ux_min, ux_intI, ux_intB, ux_lst, ux_tup, mulOk_iff, true_or, or_true, ux_lenT, ux_lenF, ux_t0, ux_t1, ux_t2, ux_t3, ux_t4, ux_t5, isB, decide_eq_true_eq, Bool.not_eq_true', decide_eq_false_iff_not, i62, true_and, and_true, if_false, Int.reduceLT, Int.reduceLE, Int.reduceAbs, Nat.reduceLT, Nat.reduceLeDiff, Nat.reducePow, Int.reducePow, Int.reduceToNat, Int.reduceNeg, Nat.reduceEqDiff, or_self, not_true, not_false_eq_true, Bool.not_true, Bool.not_false, decide_true, decide_false, Bool.false_eq_true, len_map1, app2, app3, List.append_assoc, List.length_append, Nat.zero_add, Nat.add_zero, get_newc, get_new1, get_new2, get_new3, set_newc, set_new1, set_new2, it_str, it_tup, it_frl, gx_it, gx_isLs, gx_isTx, gx_len, gx_ixI, gx_ixS, gx_getI, gx_getS, ws_storeP, ws_aug2P, gx_stI, gx_stS, gx_app, gx_pop, gx_rev, gx_cat, gx_catT, gx_sl, gx_slT, gx_slF, gx_join, gx_joinT, gx_tup, gx_tupT, gx_tupF, gx_lst, gx_lstT, gx_lstF, gx_all, gx_notInK, Mn.atI_last, Mn.ixN_last, Mn.atI_0, gx_mulL, gx_mulT, ux_isB, ux_notB, ux_isNN, ux_notNN, ux_isSN, ux_notSN, ux_isIN, ux_notIN, ux_isTN, ux_notTN, ux_isRN, ux_notRN, gx_sort, gx_dct, Mn.atI_1, Mn.atI_2, Mn.atI_3, List.length_map, set_lastM, set_lastL, List.getLast?_concat, List.dropLast_concat, gcn_str, gcn_int, gcn_bl, gcn_non, gcs_str, gcs_int, gcs_bl, gcs_non, gcn_tup, gcs_tup, gcn_lst, gcn_lst1, gcn_lst2, refsL_strs, refsL_nil, refsL_s, refsL_i, refsL_n, refsL_b, refsL_t, refsL_app, ux_slS, ux_addS, ux_iaddS, ux_lenS, ux_ixS, ux_inT2, ux_inT3, findK_nil, findK_cons, putKD_nil, putKD_cons, gx_rvL, gx_rvF, gx_rvT, gx_rvS, gx_repl, ws_no, ux_neB, ux_eqB, txsOf_map, ws_forE, keyOf_str, keyOf_int, joinTx_nil, List.foldl_cons, List.foldl_nil])
  refine disp_one ?_
  ((try dsimp only); try simp -implicitDefEqProofs only [ws_seq, ws_set, ws_par2, ws_exp, ws_ret, ws_if, ws_tg, ws_nil, ws_aug, thenR_nx, thenR_ret, thenR_bk, thenR_ct, wp_var, wp_con, wp_bin, wp_un, wp_nil, wp_cons, wp_fn, wp_test, wp_and, wp_or, wp_not, wq_andV, wq_orV, bIf_bl, ite_both, ux_mulST, wp_notV, wp_if, wq_chain, wp_call, wp_sl, wp_nopart, wp_part, wp_bm, wp_iter, wp_rng1, wp_rng2, wp_lc, wp_bind, wp_ok, wp_up, Tg.set, setsD, List.getElem?_cons_zero, List.getElem?_cons_succ, List.set_cons_zero, List.set_cons_succ, List.length_cons, List.length_nil, and_self, if_true, reduceCtorEq, Nat.reduceAdd, List.map_cons, List.map_nil, Nat.reduceSub, List.replicate_succ, List.replicate_zero, List.cons_append, List.nil_append, ux_add, ux_iadd, ux_sub, ux_mul, ux_div, ux_mod, ux_pow, ux_neg, ux_eqI, ux_neI, ux_eqS, ux_neS, ux_lt, ux_le, ux_gt, ux_ge, ux_abs, ux_max, ux_min, ux_intI, ux_intB, ux_lst, ux_tup, mulOk_iff, true_or, or_true, ux_lenT, ux_lenF, ux_t0, ux_t1, ux_t2, ux_t3, ux_t4, ux_t5, isB, decide_eq_true_eq, Bool.not_eq_true', decide_eq_false_iff_not, i62, true_and, and_true, if_false, Int.reduceLT, Int.reduceLE, Int.reduceAbs, Nat.reduceLT, Nat.reduceLeDiff, Nat.reducePow, Int.reducePow, Int.reduceToNat, Int.reduceNeg, Nat.reduceEqDiff, or_self, not_true, not_false_eq_true, Bool.not_true, Bool.not_false, decide_true, decide_false, Bool.false_eq_true, len_map1, app2, app3, List.append_assoc, List.length_append, Nat.zero_add, Nat.add_zero, get_newc, get_new1, get_new2, get_new3, set_newc, set_new1, set_new2, it_str, it_tup, it_frl, gx_it, gx_isLs, gx_isTx, gx_len, gx_ixI, gx_ixS, gx_getI, gx_getS, ws_storeP, ws_aug2P, gx_stI, gx_stS, gx_app, gx_pop, gx_rev, gx_cat, gx_catT, gx_sl, gx_slT, gx_slF, gx_join, gx_joinT, gx_tup, gx_tupT, gx_tupF, gx_lst, gx_lstT, gx_lstF, gx_all, gx_notInK, Mn.atI_last, Mn.ixN_last, Mn.atI_0, gx_mulL, gx_mulT, ux_isB, ux_notB, ux_isNN, ux_notNN, ux_isSN, ux_notSN, ux_isIN, ux_notIN, ux_isTN, ux_notTN, ux_isRN, ux_notRN, gx_sort, gx_dct, Mn.atI_1, Mn.atI_2, Mn.atI_3, List.length_map, set_lastM, set_lastL, List.getLast?_concat, List.dropLast_concat, gcn_str, gcn_int, gcn_bl, gcn_non, gcs_str, gcs_int, gcs_bl, gcs_non, gcn_tup, gcs_tup, gcn_lst, gcn_lst1, gcn_lst2, refsL_strs, refsL_nil, refsL_s, refsL_i, refsL_n, refsL_b, refsL_t, refsL_app, ux_slS, ux_addS, ux_iaddS, ux_lenS, ux_ixS, ux_inT2, ux_inT3, findK_nil, findK_cons, putKD_nil, putKD_cons, gx_rvL, gx_rvF, gx_rvT, gx_rvS, gx_repl, ws_no, ux_neB, ux_eqB, txsOf_map, ws_forE, keyOf_str, keyOf_int, joinTx_nil, List.foldl_cons, List.foldl_nil])
  rw [show MO.dct [(Sum.inr [97, 98], D.tup [D.int v, D.int 3, D.str f])] = .dct (dK regD (Rab (v, 3, f))) from rfl]
  ((try dsimp only); try simp -implicitDefEqProofs only [ws_seq, ws_set, ws_par2, ws_exp, ws_ret, ws_if, ws_tg, ws_nil, ws_aug, thenR_nx, thenR_ret, thenR_bk, thenR_ct, wp_var, wp_con, wp_bin, wp_un, wp_nil, wp_cons, wp_fn, wp_test, wp_and, wp_or, wp_not, wq_andV, wq_orV, bIf_bl, ite_both, ux_mulST, wp_notV, wp_if, wq_chain, wp_call, wp_sl, wp_nopart, wp_part, wp_bm, wp_iter, wp_rng1, wp_rng2, wp_lc, wp_bind, wp_ok, wp_up, Tg.set, setsD, List.getElem?_cons_zero, List.getElem?_cons_succ, List.set_cons_zero, List.set_cons_succ, List.length_cons, List.length_nil, and_self, if_true, reduceCtorEq, Nat.reduceAdd, List.map_cons, List.map_nil, Nat.reduceSub, List.replicate_succ, List.replicate_zero, List.cons_append, List.nil_append, ux_add, ux_iadd, ux_sub, ux_mul, ux_div, ux_mod, ux_pow, ux_neg, ux_eqI, ux_neI, ux_eqS, ux_neS, ux_lt, ux_le, ux_gt, ux_ge, ux_abs, ux_max, ux_min, ux_intI, ux_intB, ux_lst, ux_tup, mulOk_iff, true_or, or_true, ux_lenT, ux_lenF, ux_t0, ux_t1, ux_t2, ux_t3, ux_t4, ux_t5, isB, decide_eq_true_eq, Bool.not_eq_true', decide_eq_false_iff_not, i62, true_and, and_true, if_false, Int.reduceLT, Int.reduceLE, Int.reduceAbs, Nat.reduceLT, Nat.reduceLeDiff, Nat.reducePow, Int.reducePow, Int.reduceToNat, Int.reduceNeg, Nat.reduceEqDiff, or_self, not_true, not_false_eq_true, Bool.not_true, Bool.not_false, decide_true, decide_false, Bool.false_eq_true, len_map1, app2, app3, List.append_assoc, List.length_append, Nat.zero_add, Nat.add_zero, get_newc, get_new1, get_new2, get_new3, set_newc, set_new1, set_new2, it_str, it_tup, it_frl, gx_it, gx_isLs, gx_isTx, gx_len, gx_ixI, gx_ixS, gx_getI, gx_getS, ws_storeP, ws_aug2P, gx_stI, gx_stS, gx_app, gx_pop, gx_rev, gx_cat, gx_catT, gx_sl, gx_slT, gx_slF, gx_join, gx_joinT, gx_tup, gx_tupT, gx_tupF, gx_lst, gx_lstT, gx_lstF, gx_all, gx_notInK, Mn.atI_last, Mn.ixN_last, Mn.atI_0, gx_mulL, gx_mulT, ux_isB, ux_notB, ux_isNN, ux_notNN, ux_isSN, ux_notSN, ux_isIN, ux_notIN, ux_isTN, ux_notTN, ux_isRN, ux_notRN, gx_sort, gx_dct, Mn.atI_1, Mn.atI_2, Mn.atI_3, List.length_map, set_lastM, set_lastL, List.getLast?_concat, List.dropLast_concat, gcn_str, gcn_int, gcn_bl, gcn_non, gcs_str, gcs_int, gcs_bl, gcs_non, gcn_tup, gcs_tup, gcn_lst, gcn_lst1, gcn_lst2, refsL_strs, refsL_nil, refsL_s, refsL_i, refsL_n, refsL_b, refsL_t, refsL_app, ux_slS, ux_addS, ux_iaddS, ux_lenS, ux_ixS, ux_inT2, ux_inT3, findK_nil, findK_cons, putKD_nil, putKD_cons, gx_rvL, gx_rvF, gx_rvT, gx_rvS, gx_repl, ws_no, ux_neB, ux_eqB, txsOf_map, ws_forE, keyOf_str, keyOf_int, joinTx_nil, List.foldl_cons, List.foldl_nil, pD, pks, Pk.get, List.drop_zero, List.drop_succ_cons, List.take_succ_cons, List.take_zero, wx_dict0])
  refine put_in_then (R := Rab (v, 3, f)) (S := []) (A := []) get_newc get_new1 okR (show 1 ≤ 1000 by decide) K0 (by decide) ?_
  rw [pf]
  ((try dsimp only); try simp -implicitDefEqProofs only [ws_seq, ws_set, ws_par2, ws_exp, ws_ret, ws_if, ws_tg, ws_nil, ws_aug, thenR_nx, thenR_ret, thenR_bk, thenR_ct, wp_var, wp_con, wp_bin, wp_un, wp_nil, wp_cons, wp_fn, wp_test, wp_and, wp_or, wp_not, wq_andV, wq_orV, bIf_bl, ite_both, ux_mulST, wp_notV, wp_if, wq_chain, wp_call, wp_sl, wp_nopart, wp_part, wp_bm, wp_iter, wp_rng1, wp_rng2, wp_lc, wp_bind, wp_ok, wp_up, Tg.set, setsD, List.getElem?_cons_zero, List.getElem?_cons_succ, List.set_cons_zero, List.set_cons_succ, List.length_cons, List.length_nil, and_self, if_true, reduceCtorEq, Nat.reduceAdd, List.map_cons, List.map_nil, Nat.reduceSub, List.replicate_succ, List.replicate_zero, List.cons_append, List.nil_append, ux_add, ux_iadd, ux_sub, ux_mul, ux_div, ux_mod, ux_pow, ux_neg, ux_eqI, ux_neI, ux_eqS, ux_neS, ux_lt, ux_le, ux_gt, ux_ge, ux_abs, ux_max, ux_min, ux_intI, ux_intB, ux_lst, ux_tup, mulOk_iff, true_or, or_true, ux_lenT, ux_lenF, ux_t0, ux_t1, ux_t2, ux_t3, ux_t4, ux_t5, isB, decide_eq_true_eq, Bool.not_eq_true', decide_eq_false_iff_not, i62, true_and, and_true, if_false, Int.reduceLT, Int.reduceLE, Int.reduceAbs, Nat.reduceLT, Nat.reduceLeDiff, Nat.reducePow, Int.reducePow, Int.reduceToNat, Int.reduceNeg, Nat.reduceEqDiff, or_self, not_true, not_false_eq_true, Bool.not_true, Bool.not_false, decide_true, decide_false, Bool.false_eq_true, len_map1, app2, app3, List.append_assoc, List.length_append, Nat.zero_add, Nat.add_zero, get_newc, get_new1, get_new2, get_new3, set_newc, set_new1, set_new2, it_str, it_tup, it_frl, gx_it, gx_isLs, gx_isTx, gx_len, gx_ixI, gx_ixS, gx_getI, gx_getS, ws_storeP, ws_aug2P, gx_stI, gx_stS, gx_app, gx_pop, gx_rev, gx_cat, gx_catT, gx_sl, gx_slT, gx_slF, gx_join, gx_joinT, gx_tup, gx_tupT, gx_tupF, gx_lst, gx_lstT, gx_lstF, gx_all, gx_notInK, Mn.atI_last, Mn.ixN_last, Mn.atI_0, gx_mulL, gx_mulT, ux_isB, ux_notB, ux_isNN, ux_notNN, ux_isSN, ux_notSN, ux_isIN, ux_notIN, ux_isTN, ux_notTN, ux_isRN, ux_notRN, gx_sort, gx_dct, Mn.atI_1, Mn.atI_2, Mn.atI_3, List.length_map, set_lastM, set_lastL, List.getLast?_concat, List.dropLast_concat, gcn_str, gcn_int, gcn_bl, gcn_non, gcs_str, gcs_int, gcs_bl, gcs_non, gcn_tup, gcs_tup, gcn_lst, gcn_lst1, gcn_lst2, refsL_strs, refsL_nil, refsL_s, refsL_i, refsL_n, refsL_b, refsL_t, refsL_app, ux_slS, ux_addS, ux_iaddS, ux_lenS, ux_ixS, ux_inT2, ux_inT3, findK_nil, findK_cons, putKD_nil, putKD_cons, gx_rvL, gx_rvF, gx_rvT, gx_rvS, gx_repl, ws_no, ux_neB, ux_eqB, txsOf_map, ws_forE, keyOf_str, keyOf_int, joinTx_nil, List.foldl_cons, List.foldl_nil])
  unfold r7_law
  ((try dsimp only); try simp -implicitDefEqProofs only [ws_seq, ws_set, ws_par2, ws_exp, ws_ret, ws_if, ws_tg, ws_nil, ws_aug, thenR_nx, thenR_ret, thenR_bk, thenR_ct, wp_var, wp_con, wp_bin, wp_un, wp_nil, wp_cons, wp_fn, wp_test, wp_and, wp_or, wp_not, wq_andV, wq_orV, bIf_bl, ite_both, ux_mulST, wp_notV, wp_if, wq_chain, wp_call, wp_sl, wp_nopart, wp_part, wp_bm, wp_iter, wp_rng1, wp_rng2, wp_lc, wp_bind, wp_ok, wp_up, Tg.set, setsD, List.getElem?_cons_zero, List.getElem?_cons_succ, List.set_cons_zero, List.set_cons_succ, List.length_cons, List.length_nil, and_self, if_true, reduceCtorEq, Nat.reduceAdd, List.map_cons, List.map_nil, Nat.reduceSub, List.replicate_succ, List.replicate_zero, List.cons_append, List.nil_append, ux_add, ux_iadd, ux_sub, ux_mul, ux_div, ux_mod, ux_pow, ux_neg, ux_eqI, ux_neI, ux_eqS, ux_neS, ux_lt, ux_le, ux_gt, ux_ge, ux_abs, ux_max, ux_min, ux_intI, ux_intB, ux_lst, ux_tup, mulOk_iff, true_or, or_true, ux_lenT, ux_lenF, ux_t0, ux_t1, ux_t2, ux_t3, ux_t4, ux_t5, isB, decide_eq_true_eq, Bool.not_eq_true', decide_eq_false_iff_not, i62, true_and, and_true, if_false, Int.reduceLT, Int.reduceLE, Int.reduceAbs, Nat.reduceLT, Nat.reduceLeDiff, Nat.reducePow, Int.reducePow, Int.reduceToNat, Int.reduceNeg, Nat.reduceEqDiff, or_self, not_true, not_false_eq_true, Bool.not_true, Bool.not_false, decide_true, decide_false, Bool.false_eq_true, len_map1, app2, app3, List.append_assoc, List.length_append, Nat.zero_add, Nat.add_zero, get_newc, get_new1, get_new2, get_new3, set_newc, set_new1, set_new2, it_str, it_tup, it_frl, gx_it, gx_isLs, gx_isTx, gx_len, gx_ixI, gx_ixS, gx_getI, gx_getS, ws_storeP, ws_aug2P, gx_stI, gx_stS, gx_app, gx_pop, gx_rev, gx_cat, gx_catT, gx_sl, gx_slT, gx_slF, gx_join, gx_joinT, gx_tup, gx_tupT, gx_tupF, gx_lst, gx_lstT, gx_lstF, gx_all, gx_notInK, Mn.atI_last, Mn.ixN_last, Mn.atI_0, gx_mulL, gx_mulT, ux_isB, ux_notB, ux_isNN, ux_notNN, ux_isSN, ux_notSN, ux_isIN, ux_notIN, ux_isTN, ux_notTN, ux_isRN, ux_notRN, gx_sort, gx_dct, Mn.atI_1, Mn.atI_2, Mn.atI_3, List.length_map, set_lastM, set_lastL, List.getLast?_concat, List.dropLast_concat, gcn_str, gcn_int, gcn_bl, gcn_non, gcs_str, gcs_int, gcs_bl, gcs_non, gcn_tup, gcs_tup, gcn_lst, gcn_lst1, gcn_lst2, refsL_strs, refsL_nil, refsL_s, refsL_i, refsL_n, refsL_b, refsL_t, refsL_app, ux_slS, ux_addS, ux_iaddS, ux_lenS, ux_ixS, ux_inT2, ux_inT3, findK_nil, findK_cons, putKD_nil, putKD_cons, gx_rvL, gx_rvF, gx_rvT, gx_rvS, gx_repl, ws_no, ux_neB, ux_eqB, txsOf_map, ws_forE, keyOf_str, keyOf_int, joinTx_nil, List.foldl_cons, List.foldl_nil, pD, pks, Pk.get, List.drop_zero, List.drop_succ_cons, List.take_succ_cons, List.take_zero])
  have st : ∀ {m : MH}, Sh m 0 20 (.str (shownR (v, 3, f))) (.str (tx (shownR (v, 3, f)))) := Sh.str so sl
  rw [ux_reprP st (by omega) (by omega)]
  refine form_then ok ?_
  rw [ux_reprP st (by omega) (by omega)]
  ((try dsimp only); try simp -implicitDefEqProofs only [ws_seq, ws_set, ws_par2, ws_exp, ws_ret, ws_if, ws_tg, ws_nil, ws_aug, thenR_nx, thenR_ret, thenR_bk, thenR_ct, wp_var, wp_con, wp_bin, wp_un, wp_nil, wp_cons, wp_fn, wp_test, wp_and, wp_or, wp_not, wq_andV, wq_orV, bIf_bl, ite_both, ux_mulST, wp_notV, wp_if, wq_chain, wp_call, wp_sl, wp_nopart, wp_part, wp_bm, wp_iter, wp_rng1, wp_rng2, wp_lc, wp_bind, wp_ok, wp_up, Tg.set, setsD, List.getElem?_cons_zero, List.getElem?_cons_succ, List.set_cons_zero, List.set_cons_succ, List.length_cons, List.length_nil, and_self, if_true, reduceCtorEq, Nat.reduceAdd, List.map_cons, List.map_nil, Nat.reduceSub, List.replicate_succ, List.replicate_zero, List.cons_append, List.nil_append, ux_add, ux_iadd, ux_sub, ux_mul, ux_div, ux_mod, ux_pow, ux_neg, ux_eqI, ux_neI, ux_eqS, ux_neS, ux_lt, ux_le, ux_gt, ux_ge, ux_abs, ux_max, ux_min, ux_intI, ux_intB, ux_lst, ux_tup, mulOk_iff, true_or, or_true, ux_lenT, ux_lenF, ux_t0, ux_t1, ux_t2, ux_t3, ux_t4, ux_t5, isB, decide_eq_true_eq, Bool.not_eq_true', decide_eq_false_iff_not, i62, true_and, and_true, if_false, Int.reduceLT, Int.reduceLE, Int.reduceAbs, Nat.reduceLT, Nat.reduceLeDiff, Nat.reducePow, Int.reducePow, Int.reduceToNat, Int.reduceNeg, Nat.reduceEqDiff, or_self, not_true, not_false_eq_true, Bool.not_true, Bool.not_false, decide_true, decide_false, Bool.false_eq_true, len_map1, app2, app3, List.append_assoc, List.length_append, Nat.zero_add, Nat.add_zero, get_newc, get_new1, get_new2, get_new3, set_newc, set_new1, set_new2, it_str, it_tup, it_frl, gx_it, gx_isLs, gx_isTx, gx_len, gx_ixI, gx_ixS, gx_getI, gx_getS, ws_storeP, ws_aug2P, gx_stI, gx_stS, gx_app, gx_pop, gx_rev, gx_cat, gx_catT, gx_sl, gx_slT, gx_slF, gx_join, gx_joinT, gx_tup, gx_tupT, gx_tupF, gx_lst, gx_lstT, gx_lstF, gx_all, gx_notInK, Mn.atI_last, Mn.ixN_last, Mn.atI_0, gx_mulL, gx_mulT, ux_isB, ux_notB, ux_isNN, ux_notNN, ux_isSN, ux_notSN, ux_isIN, ux_notIN, ux_isTN, ux_notTN, ux_isRN, ux_notRN, gx_sort, gx_dct, Mn.atI_1, Mn.atI_2, Mn.atI_3, List.length_map, set_lastM, set_lastL, List.getLast?_concat, List.dropLast_concat, gcn_str, gcn_int, gcn_bl, gcn_non, gcs_str, gcs_int, gcs_bl, gcs_non, gcn_tup, gcs_tup, gcn_lst, gcn_lst1, gcn_lst2, refsL_strs, refsL_nil, refsL_s, refsL_i, refsL_n, refsL_b, refsL_t, refsL_app, ux_slS, ux_addS, ux_iaddS, ux_lenS, ux_ixS, ux_inT2, ux_inT3, findK_nil, findK_cons, putKD_nil, putKD_cons, gx_rvL, gx_rvF, gx_rvT, gx_rvS, gx_repl, ws_no, ux_neB, ux_eqB, txsOf_map, ws_forE, keyOf_str, keyOf_int, joinTx_nil, List.foldl_cons, List.foldl_nil])
  rw [ux_reprX (fun n => toPy_dct (get_newK 2) _) (sh_rab (get_newK 2) ok) (by omega) (by omega)]
  refine disp_one ?_
  ((try dsimp only); try simp -implicitDefEqProofs only [ws_seq, ws_set, ws_par2, ws_exp, ws_ret, ws_if, ws_tg, ws_nil, ws_aug, thenR_nx, thenR_ret, thenR_bk, thenR_ct, wp_var, wp_con, wp_bin, wp_un, wp_nil, wp_cons, wp_fn, wp_test, wp_and, wp_or, wp_not, wq_andV, wq_orV, bIf_bl, ite_both, ux_mulST, wp_notV, wp_if, wq_chain, wp_call, wp_sl, wp_nopart, wp_part, wp_bm, wp_iter, wp_rng1, wp_rng2, wp_lc, wp_bind, wp_ok, wp_up, Tg.set, setsD, List.getElem?_cons_zero, List.getElem?_cons_succ, List.set_cons_zero, List.set_cons_succ, List.length_cons, List.length_nil, and_self, if_true, reduceCtorEq, Nat.reduceAdd, List.map_cons, List.map_nil, Nat.reduceSub, List.replicate_succ, List.replicate_zero, List.cons_append, List.nil_append, ux_add, ux_iadd, ux_sub, ux_mul, ux_div, ux_mod, ux_pow, ux_neg, ux_eqI, ux_neI, ux_eqS, ux_neS, ux_lt, ux_le, ux_gt, ux_ge, ux_abs, ux_max, ux_min, ux_intI, ux_intB, ux_lst, ux_tup, mulOk_iff, true_or, or_true, ux_lenT, ux_lenF, ux_t0, ux_t1, ux_t2, ux_t3, ux_t4, ux_t5, isB, decide_eq_true_eq, Bool.not_eq_true', decide_eq_false_iff_not, i62, true_and, and_true, if_false, Int.reduceLT, Int.reduceLE, Int.reduceAbs, Nat.reduceLT, Nat.reduceLeDiff, Nat.reducePow, Int.reducePow, Int.reduceToNat, Int.reduceNeg, Nat.reduceEqDiff, or_self, not_true, not_false_eq_true, Bool.not_true, Bool.not_false, decide_true, decide_false, Bool.false_eq_true, len_map1, app2, app3, List.append_assoc, List.length_append, Nat.zero_add, Nat.add_zero, get_newc, get_new1, get_new2, get_new3, set_newc, set_new1, set_new2, it_str, it_tup, it_frl, gx_it, gx_isLs, gx_isTx, gx_len, gx_ixI, gx_ixS, gx_getI, gx_getS, ws_storeP, ws_aug2P, gx_stI, gx_stS, gx_app, gx_pop, gx_rev, gx_cat, gx_catT, gx_sl, gx_slT, gx_slF, gx_join, gx_joinT, gx_tup, gx_tupT, gx_tupF, gx_lst, gx_lstT, gx_lstF, gx_all, gx_notInK, Mn.atI_last, Mn.ixN_last, Mn.atI_0, gx_mulL, gx_mulT, ux_isB, ux_notB, ux_isNN, ux_notNN, ux_isSN, ux_notSN, ux_isIN, ux_notIN, ux_isTN, ux_notTN, ux_isRN, ux_notRN, gx_sort, gx_dct, Mn.atI_1, Mn.atI_2, Mn.atI_3, List.length_map, set_lastM, set_lastL, List.getLast?_concat, List.dropLast_concat, gcn_str, gcn_int, gcn_bl, gcn_non, gcs_str, gcs_int, gcs_bl, gcs_non, gcn_tup, gcs_tup, gcn_lst, gcn_lst1, gcn_lst2, refsL_strs, refsL_nil, refsL_s, refsL_i, refsL_n, refsL_b, refsL_t, refsL_app, ux_slS, ux_addS, ux_iaddS, ux_lenS, ux_ixS, ux_inT2, ux_inT3, findK_nil, findK_cons, putKD_nil, putKD_cons, gx_rvL, gx_rvF, gx_rvT, gx_rvS, gx_repl, ws_no, ux_neB, ux_eqB, txsOf_map, ws_forE, keyOf_str, keyOf_int, joinTx_nil, List.foldl_cons, List.foldl_nil])
  rw [show MO.dct [(Sum.inr [97, 98], D.tup [D.int v, D.int 3, D.str f])] = .dct (dK regD (Rab (v, 3, f))) from rfl]
  ((try dsimp only); try simp -implicitDefEqProofs only [ws_seq, ws_set, ws_par2, ws_exp, ws_ret, ws_if, ws_tg, ws_nil, ws_aug, thenR_nx, thenR_ret, thenR_bk, thenR_ct, wp_var, wp_con, wp_bin, wp_un, wp_nil, wp_cons, wp_fn, wp_test, wp_and, wp_or, wp_not, wq_andV, wq_orV, bIf_bl, ite_both, ux_mulST, wp_notV, wp_if, wq_chain, wp_call, wp_sl, wp_nopart, wp_part, wp_bm, wp_iter, wp_rng1, wp_rng2, wp_lc, wp_bind, wp_ok, wp_up, Tg.set, setsD, List.getElem?_cons_zero, List.getElem?_cons_succ, List.set_cons_zero, List.set_cons_succ, List.length_cons, List.length_nil, and_self, if_true, reduceCtorEq, Nat.reduceAdd, List.map_cons, List.map_nil, Nat.reduceSub, List.replicate_succ, List.replicate_zero, List.cons_append, List.nil_append, ux_add, ux_iadd, ux_sub, ux_mul, ux_div, ux_mod, ux_pow, ux_neg, ux_eqI, ux_neI, ux_eqS, ux_neS, ux_lt, ux_le, ux_gt, ux_ge, ux_abs, ux_max, ux_min, ux_intI, ux_intB, ux_lst, ux_tup, mulOk_iff, true_or, or_true, ux_lenT, ux_lenF, ux_t0, ux_t1, ux_t2, ux_t3, ux_t4, ux_t5, isB, decide_eq_true_eq, Bool.not_eq_true', decide_eq_false_iff_not, i62, true_and, and_true, if_false, Int.reduceLT, Int.reduceLE, Int.reduceAbs, Nat.reduceLT, Nat.reduceLeDiff, Nat.reducePow, Int.reducePow, Int.reduceToNat, Int.reduceNeg, Nat.reduceEqDiff, or_self, not_true, not_false_eq_true, Bool.not_true, Bool.not_false, decide_true, decide_false, Bool.false_eq_true, len_map1, app2, app3, List.append_assoc, List.length_append, Nat.zero_add, Nat.add_zero, get_newc, get_new1, get_new2, get_new3, set_newc, set_new1, set_new2, it_str, it_tup, it_frl, gx_it, gx_isLs, gx_isTx, gx_len, gx_ixI, gx_ixS, gx_getI, gx_getS, ws_storeP, ws_aug2P, gx_stI, gx_stS, gx_app, gx_pop, gx_rev, gx_cat, gx_catT, gx_sl, gx_slT, gx_slF, gx_join, gx_joinT, gx_tup, gx_tupT, gx_tupF, gx_lst, gx_lstT, gx_lstF, gx_all, gx_notInK, Mn.atI_last, Mn.ixN_last, Mn.atI_0, gx_mulL, gx_mulT, ux_isB, ux_notB, ux_isNN, ux_notNN, ux_isSN, ux_notSN, ux_isIN, ux_notIN, ux_isTN, ux_notTN, ux_isRN, ux_notRN, gx_sort, gx_dct, Mn.atI_1, Mn.atI_2, Mn.atI_3, List.length_map, set_lastM, set_lastL, List.getLast?_concat, List.dropLast_concat, gcn_str, gcn_int, gcn_bl, gcn_non, gcs_str, gcs_int, gcs_bl, gcs_non, gcn_tup, gcs_tup, gcn_lst, gcn_lst1, gcn_lst2, refsL_strs, refsL_nil, refsL_s, refsL_i, refsL_n, refsL_b, refsL_t, refsL_app, ux_slS, ux_addS, ux_iaddS, ux_lenS, ux_ixS, ux_inT2, ux_inT3, findK_nil, findK_cons, putKD_nil, putKD_cons, gx_rvL, gx_rvF, gx_rvT, gx_rvS, gx_repl, ws_no, ux_neB, ux_eqB, txsOf_map, ws_forE, keyOf_str, keyOf_int, joinTx_nil, List.foldl_cons, List.foldl_nil, set_newK, get_newK])
  rw [ux_reprX (fun n => toPy_dct (get_newK 3) _) (sh_rab (get_newK 3) ok) (by omega) (by omega)]
  ((try dsimp only); try simp -implicitDefEqProofs only [ws_seq, ws_set, ws_par2, ws_exp, ws_ret, ws_if, ws_tg, ws_nil, ws_aug, thenR_nx, thenR_ret, thenR_bk, thenR_ct, wp_var, wp_con, wp_bin, wp_un, wp_nil, wp_cons, wp_fn, wp_test, wp_and, wp_or, wp_not, wq_andV, wq_orV, bIf_bl, ite_both, ux_mulST, wp_notV, wp_if, wq_chain, wp_call, wp_sl, wp_nopart, wp_part, wp_bm, wp_iter, wp_rng1, wp_rng2, wp_lc, wp_bind, wp_ok, wp_up, Tg.set, setsD, List.getElem?_cons_zero, List.getElem?_cons_succ, List.set_cons_zero, List.set_cons_succ, List.length_cons, List.length_nil, and_self, if_true, reduceCtorEq, Nat.reduceAdd, List.map_cons, List.map_nil, Nat.reduceSub, List.replicate_succ, List.replicate_zero, List.cons_append, List.nil_append, ux_add, ux_iadd, ux_sub, ux_mul, ux_div, ux_mod, ux_pow, ux_neg, ux_eqI, ux_neI, ux_eqS, ux_neS, ux_lt, ux_le, ux_gt, ux_ge, ux_abs, ux_max, ux_min, ux_intI, ux_intB, ux_lst, ux_tup, mulOk_iff, true_or, or_true, ux_lenT, ux_lenF, ux_t0, ux_t1, ux_t2, ux_t3, ux_t4, ux_t5, isB, decide_eq_true_eq, Bool.not_eq_true', decide_eq_false_iff_not, i62, true_and, and_true, if_false, Int.reduceLT, Int.reduceLE, Int.reduceAbs, Nat.reduceLT, Nat.reduceLeDiff, Nat.reducePow, Int.reducePow, Int.reduceToNat, Int.reduceNeg, Nat.reduceEqDiff, or_self, not_true, not_false_eq_true, Bool.not_true, Bool.not_false, decide_true, decide_false, Bool.false_eq_true, len_map1, app2, app3, List.append_assoc, List.length_append, Nat.zero_add, Nat.add_zero, get_newc, get_new1, get_new2, get_new3, set_newc, set_new1, set_new2, it_str, it_tup, it_frl, gx_it, gx_isLs, gx_isTx, gx_len, gx_ixI, gx_ixS, gx_getI, gx_getS, ws_storeP, ws_aug2P, gx_stI, gx_stS, gx_app, gx_pop, gx_rev, gx_cat, gx_catT, gx_sl, gx_slT, gx_slF, gx_join, gx_joinT, gx_tup, gx_tupT, gx_tupF, gx_lst, gx_lstT, gx_lstF, gx_all, gx_notInK, Mn.atI_last, Mn.ixN_last, Mn.atI_0, gx_mulL, gx_mulT, ux_isB, ux_notB, ux_isNN, ux_notNN, ux_isSN, ux_notSN, ux_isIN, ux_notIN, ux_isTN, ux_notTN, ux_isRN, ux_notRN, gx_sort, gx_dct, Mn.atI_1, Mn.atI_2, Mn.atI_3, List.length_map, set_lastM, set_lastL, List.getLast?_concat, List.dropLast_concat, gcn_str, gcn_int, gcn_bl, gcn_non, gcs_str, gcs_int, gcs_bl, gcs_non, gcn_tup, gcs_tup, gcn_lst, gcn_lst1, gcn_lst2, refsL_strs, refsL_nil, refsL_s, refsL_i, refsL_n, refsL_b, refsL_t, refsL_app, ux_slS, ux_addS, ux_iaddS, ux_lenS, ux_ixS, ux_inT2, ux_inT3, findK_nil, findK_cons, putKD_nil, putKD_cons, gx_rvL, gx_rvF, gx_rvT, gx_rvS, gx_repl, ws_no, ux_neB, ux_eqB, txsOf_map, ws_forE, keyOf_str, keyOf_int, joinTx_nil, List.foldl_cons, List.foldl_nil])
  exact q _ _ _
def formsD : List D := [.str [49], .str [48, 49], .str [97], .str [105]]
theorem forms_ok {d : D} (h : d ∈ formsD) : ∃ f, d = .str f ∧ FormOk f := by
  unfold formsD at h
  simp at h
  rcases h with rfl | rfl | rfl | rfl
  · exact ⟨_, rfl, .inl rfl⟩
  · exact ⟨_, rfl, .inr (.inl rfl)⟩
  · exact ⟨_, rfl, .inr (.inr (.inl rfl))⟩
  · exact ⟨_, rfl, .inr (.inr (.inr rfl))⟩
def valsD (r : Int) : List D := [.int (-9999), .int (-10), .int (-9), .int (-1), .int 0, .int 1, .int 4, .int 9, .int 10, .int 14, .int 26, .int 27, .int 39, .int 40, .int 99, .int 100, .int 9999, .int (r - 9)]
theorem vals_ok {d : D} {r : Int} (h0 : 0 ≤ r) (h1 : r < 60) (h : d ∈ valsD r) : ∃ v, d = .int v ∧ -9999 ≤ v ∧ v ≤ 9999 := by
  unfold valsD at h
  simp only [List.mem_cons, List.not_mem_nil, or_false] at h
  rcases h with h | h | h | h | h | h | h | h | h | h | h | h | h | h | h | h | h | h <;> exact ⟨_, h, by omega, by omega⟩
theorem form_lap {m : MH} {b F : Nat} {f : Mn.Tx} {v0 v4 v5 v6 v7 v8 v9 : Option D} {R : Fl → Mn.Fr → MH → Prop} (h : PenL m 0 (b + 1)) (hF : m[F]? = some (.lst formsD)) (nF : F ≠ 0) (hf : FormOk f)
    (q : ∀ m' v5 v8 v9, PenL m' 0 b → m'[F]? = some (.lst formsD) → R .nx [v0, some (.ref 0), some (.ref F), some (.str f), v4, v5, v6, v7, v8, v9] m') :
    ws (l9_law [v0, some (.ref 0), some (.ref F), some (.str f), v4, v5, v6, v7, v8, v9] m) R := by
  unfold l9_law
  ((try dsimp only); try simp -implicitDefEqProofs only [ws_seq, ws_set, ws_par2, ws_exp, ws_ret, ws_if, ws_tg, ws_nil, ws_aug, thenR_nx, thenR_ret, thenR_bk, thenR_ct, wp_var, wp_con, wp_bin, wp_un, wp_nil, wp_cons, wp_fn, wp_test, wp_and, wp_or, wp_not, wq_andV, wq_orV, bIf_bl, ite_both, ux_mulST, wp_notV, wp_if, wq_chain, wp_call, wp_sl, wp_nopart, wp_part, wp_bm, wp_iter, wp_rng1, wp_rng2, wp_lc, wp_bind, wp_ok, wp_up, Tg.set, setsD, List.getElem?_cons_zero, List.getElem?_cons_succ, List.set_cons_zero, List.set_cons_succ, List.length_cons, List.length_nil, and_self, if_true, reduceCtorEq, Nat.reduceAdd, List.map_cons, List.map_nil, Nat.reduceSub, List.replicate_succ, List.replicate_zero, List.cons_append, List.nil_append, ux_add, ux_iadd, ux_sub, ux_mul, ux_div, ux_mod, ux_pow, ux_neg, ux_eqI, ux_neI, ux_eqS, ux_neS, ux_lt, ux_le, ux_gt, ux_ge, ux_abs, ux_max, ux_min, ux_intI, ux_intB, ux_lst, ux_tup, mulOk_iff, true_or, or_true, ux_lenT, ux_lenF, ux_t0, ux_t1, ux_t2, ux_t3, ux_t4, ux_t5, isB, decide_eq_true_eq, Bool.not_eq_true', decide_eq_false_iff_not, i62, true_and, and_true, if_false, Int.reduceLT, Int.reduceLE, Int.reduceAbs, Nat.reduceLT, Nat.reduceLeDiff, Nat.reducePow, Int.reducePow, Int.reduceToNat, Int.reduceNeg, Nat.reduceEqDiff, or_self, not_true, not_false_eq_true, Bool.not_true, Bool.not_false, decide_true, decide_false, Bool.false_eq_true, len_map1, app2, app3, List.append_assoc, List.length_append, Nat.zero_add, Nat.add_zero, get_newc, get_new1, get_new2, get_new3, set_newc, set_new1, set_new2, it_str, it_tup, it_frl, gx_it, gx_isLs, gx_isTx, gx_len, gx_ixI, gx_ixS, gx_getI, gx_getS, ws_storeP, ws_aug2P, gx_stI, gx_stS, gx_app, gx_pop, gx_rev, gx_cat, gx_catT, gx_sl, gx_slT, gx_slF, gx_join, gx_joinT, gx_tup, gx_tupT, gx_tupF, gx_lst, gx_lstT, gx_lstF, gx_all, gx_notInK, Mn.atI_last, Mn.ixN_last, Mn.atI_0, gx_mulL, gx_mulT, ux_isB, ux_notB, ux_isNN, ux_notNN, ux_isSN, ux_notSN, ux_isIN, ux_notIN, ux_isTN, ux_notTN, ux_isRN, ux_notRN, gx_sort, gx_dct, Mn.atI_1, Mn.atI_2, Mn.atI_3, List.length_map, set_lastM, set_lastL, List.getLast?_concat, List.dropLast_concat, gcn_str, gcn_int, gcn_bl, gcn_non, gcs_str, gcs_int, gcs_bl, gcs_non, gcn_tup, gcs_tup, gcn_lst, gcn_lst1, gcn_lst2, refsL_strs, refsL_nil, refsL_s, refsL_i, refsL_n, refsL_b, refsL_t, refsL_app, ux_slS, ux_addS, ux_iaddS, ux_lenS, ux_ixS, ux_inT2, ux_inT3, findK_nil, findK_cons, putKD_nil, putKD_cons, gx_rvL, gx_rvF, gx_rvT, gx_rvS, gx_repl, ws_no, ux_neB, ux_eqB, txsOf_map, ws_forE, keyOf_str, keyOf_int, joinTx_nil, List.foldl_cons, List.foldl_nil, pD, pks, Pk.get, List.drop_zero, List.drop_succ_cons, List.take_succ_cons, List.take_zero])
  refine draw_then (b := b) h (by omega) (by omega) fun r m1 r0 r1 a1 a2 a3 => ?_
  ((try dsimp only); try simp -implicitDefEqProofs only [ws_seq, ws_set, ws_par2, ws_exp, ws_ret, ws_if, ws_tg, ws_nil, ws_aug, thenR_nx, thenR_ret, thenR_bk, thenR_ct, wp_var, wp_con, wp_bin, wp_un, wp_nil, wp_cons, wp_fn, wp_test, wp_and, wp_or, wp_not, wq_andV, wq_orV, bIf_bl, ite_both, ux_mulST, wp_notV, wp_if, wq_chain, wp_call, wp_sl, wp_nopart, wp_part, wp_bm, wp_iter, wp_rng1, wp_rng2, wp_lc, wp_bind, wp_ok, wp_up, Tg.set, setsD, List.getElem?_cons_zero, List.getElem?_cons_succ, List.set_cons_zero, List.set_cons_succ, List.length_cons, List.length_nil, and_self, if_true, reduceCtorEq, Nat.reduceAdd, List.map_cons, List.map_nil, Nat.reduceSub, List.replicate_succ, List.replicate_zero, List.cons_append, List.nil_append, ux_add, ux_iadd, ux_sub, ux_mul, ux_div, ux_mod, ux_pow, ux_neg, ux_eqI, ux_neI, ux_eqS, ux_neS, ux_lt, ux_le, ux_gt, ux_ge, ux_abs, ux_max, ux_min, ux_intI, ux_intB, ux_lst, ux_tup, mulOk_iff, true_or, or_true, ux_lenT, ux_lenF, ux_t0, ux_t1, ux_t2, ux_t3, ux_t4, ux_t5, isB, decide_eq_true_eq, Bool.not_eq_true', decide_eq_false_iff_not, i62, true_and, and_true, if_false, Int.reduceLT, Int.reduceLE, Int.reduceAbs, Nat.reduceLT, Nat.reduceLeDiff, Nat.reducePow, Int.reducePow, Int.reduceToNat, Int.reduceNeg, Nat.reduceEqDiff, or_self, not_true, not_false_eq_true, Bool.not_true, Bool.not_false, decide_true, decide_false, Bool.false_eq_true, len_map1, app2, app3, List.append_assoc, List.length_append, Nat.zero_add, Nat.add_zero, get_newc, get_new1, get_new2, get_new3, set_newc, set_new1, set_new2, it_str, it_tup, it_frl, gx_it, gx_isLs, gx_isTx, gx_len, gx_ixI, gx_ixS, gx_getI, gx_getS, ws_storeP, ws_aug2P, gx_stI, gx_stS, gx_app, gx_pop, gx_rev, gx_cat, gx_catT, gx_sl, gx_slT, gx_slF, gx_join, gx_joinT, gx_tup, gx_tupT, gx_tupF, gx_lst, gx_lstT, gx_lstF, gx_all, gx_notInK, Mn.atI_last, Mn.ixN_last, Mn.atI_0, gx_mulL, gx_mulT, ux_isB, ux_notB, ux_isNN, ux_notNN, ux_isSN, ux_notSN, ux_isIN, ux_notIN, ux_isTN, ux_notTN, ux_isRN, ux_notRN, gx_sort, gx_dct, Mn.atI_1, Mn.atI_2, Mn.atI_3, List.length_map, set_lastM, set_lastL, List.getLast?_concat, List.dropLast_concat, gcn_str, gcn_int, gcn_bl, gcn_non, gcs_str, gcs_int, gcs_bl, gcs_non, gcn_tup, gcs_tup, gcn_lst, gcn_lst1, gcn_lst2, refsL_strs, refsL_nil, refsL_s, refsL_i, refsL_n, refsL_b, refsL_t, refsL_app, ux_slS, ux_addS, ux_iaddS, ux_lenS, ux_ixS, ux_inT2, ux_inT3, findK_nil, findK_cons, putKD_nil, putKD_cons, gx_rvL, gx_rvF, gx_rvT, gx_rvS, gx_repl, ws_no, ux_neB, ux_eqB, txsOf_map, ws_forE, keyOf_str, keyOf_int, joinTx_nil, List.foldl_cons, List.foldl_nil])
  have hF1 := a2.get hF nF
  refine ws_lst (a := m1.length) (xs := valsD r) (by simp [valsD]) (fun i f' m' => ∃ g v5 v8 v9, f' = [v0, some (.ref 0), some (.ref F), some (.str f), v4, v5, v6, v7, v8, v9] ∧ m' = m1 ++ .lst (valsD r) :: g) ⟨[], _, _, _, rfl, rfl⟩ ?_ ?_ ?_
  · rintro i f' m' ⟨g, v5, v8, v9, rfl, rfl⟩
    exact get_newc
  · rintro i d f' m' hd ⟨g, v5, v8, v9, rfl, rfl⟩
    obtain ⟨v, rfl, hv⟩ := vals_ok r0 r1 (List.mem_of_getElem? hd)
    refine ⟨_, rfl, ?_⟩
    refine value_lap hv hf fun g2 v8 v9 => ?_
    exact ⟨g ++ g2, _, _, _, rfl, by simp⟩
  · rintro f' m' ⟨g, v5, v8, v9, rfl, rfl⟩
    exact q _ _ _ _ a3.app (old_app hF1)
theorem draw_lap {m : MH} {b F : Nat} {v0 v3 v4 v5 v6 v7 v8 v9 : Option D} {R : Fl → Mn.Fr → MH → Prop} (h : PenL m 0 (b + 20)) (hF : m[F]? = some (.lst formsD)) (nF : F ≠ 0)
    (q : ∀ m' v5 v6 v7, PenL m' 0 b → m'[F]? = some (.lst formsD) → R .nx [v0, some (.ref 0), some (.ref F), v3, v4, v5, v6, v7, v8, v9] m') :
    ws (l5_law [v0, some (.ref 0), some (.ref F), v3, v4, v5, v6, v7, v8, v9] m) R := by
  have fr : ∀ d ∈ formsD, d.refs = [] := fun d hd => by
    obtain ⟨f, rfl, _⟩ := forms_ok hd
    rfl
  unfold l5_law
  ((try dsimp only); try simp -implicitDefEqProofs only [ws_seq, ws_set, ws_par2, ws_exp, ws_ret, ws_if, ws_tg, ws_nil, ws_aug, thenR_nx, thenR_ret, thenR_bk, thenR_ct, wp_var, wp_con, wp_bin, wp_un, wp_nil, wp_cons, wp_fn, wp_test, wp_and, wp_or, wp_not, wq_andV, wq_orV, bIf_bl, ite_both, ux_mulST, wp_notV, wp_if, wq_chain, wp_call, wp_sl, wp_nopart, wp_part, wp_bm, wp_iter, wp_rng1, wp_rng2, wp_lc, wp_bind, wp_ok, wp_up, Tg.set, setsD, List.getElem?_cons_zero, List.getElem?_cons_succ, List.set_cons_zero, List.set_cons_succ, List.length_cons, List.length_nil, and_self, if_true, reduceCtorEq, Nat.reduceAdd, List.map_cons, List.map_nil, Nat.reduceSub, List.replicate_succ, List.replicate_zero, List.cons_append, List.nil_append, ux_add, ux_iadd, ux_sub, ux_mul, ux_div, ux_mod, ux_pow, ux_neg, ux_eqI, ux_neI, ux_eqS, ux_neS, ux_lt, ux_le, ux_gt, ux_ge, ux_abs, ux_max, ux_min, ux_intI, ux_intB, ux_lst, ux_tup, mulOk_iff, true_or, or_true, ux_lenT, ux_lenF, ux_t0, ux_t1, ux_t2, ux_t3, ux_t4, ux_t5, isB, decide_eq_true_eq, Bool.not_eq_true', decide_eq_false_iff_not, i62, true_and, and_true, if_false, Int.reduceLT, Int.reduceLE, Int.reduceAbs, Nat.reduceLT, Nat.reduceLeDiff, Nat.reducePow, Int.reducePow, Int.reduceToNat, Int.reduceNeg, Nat.reduceEqDiff, or_self, not_true, not_false_eq_true, Bool.not_true, Bool.not_false, decide_true, decide_false, Bool.false_eq_true, len_map1, app2, app3, List.append_assoc, List.length_append, Nat.zero_add, Nat.add_zero, get_newc, get_new1, get_new2, get_new3, set_newc, set_new1, set_new2, it_str, it_tup, it_frl, gx_it, gx_isLs, gx_isTx, gx_len, gx_ixI, gx_ixS, gx_getI, gx_getS, ws_storeP, ws_aug2P, gx_stI, gx_stS, gx_app, gx_pop, gx_rev, gx_cat, gx_catT, gx_sl, gx_slT, gx_slF, gx_join, gx_joinT, gx_tup, gx_tupT, gx_tupF, gx_lst, gx_lstT, gx_lstF, gx_all, gx_notInK, Mn.atI_last, Mn.ixN_last, Mn.atI_0, gx_mulL, gx_mulT, ux_isB, ux_notB, ux_isNN, ux_notNN, ux_isSN, ux_notSN, ux_isIN, ux_notIN, ux_isTN, ux_notTN, ux_isRN, ux_notRN, gx_sort, gx_dct, Mn.atI_1, Mn.atI_2, Mn.atI_3, List.length_map, set_lastM, set_lastL, List.getLast?_concat, List.dropLast_concat, gcn_str, gcn_int, gcn_bl, gcn_non, gcs_str, gcs_int, gcs_bl, gcs_non, gcn_tup, gcs_tup, gcn_lst, gcn_lst1, gcn_lst2, refsL_strs, refsL_nil, refsL_s, refsL_i, refsL_n, refsL_b, refsL_t, refsL_app, ux_slS, ux_addS, ux_iaddS, ux_lenS, ux_ixS, ux_inT2, ux_inT3, findK_nil, findK_cons, putKD_nil, putKD_cons, gx_rvL, gx_rvF, gx_rvT, gx_rvS, gx_repl, ws_no, ux_neB, ux_eqB, txsOf_map, ws_forE, keyOf_str, keyOf_int, joinTx_nil, List.foldl_cons, List.foldl_nil, pD, pks, Pk.get, List.drop_zero, List.drop_succ_cons, List.take_succ_cons, List.take_zero])
  refine draw_then (b := b + 19) h (by omega) (by omega) fun r m1 r0 r1 a1 a2 a3 => ?_
  ((try dsimp only); try simp -implicitDefEqProofs only [ws_seq, ws_set, ws_par2, ws_exp, ws_ret, ws_if, ws_tg, ws_nil, ws_aug, thenR_nx, thenR_ret, thenR_bk, thenR_ct, wp_var, wp_con, wp_bin, wp_un, wp_nil, wp_cons, wp_fn, wp_test, wp_and, wp_or, wp_not, wq_andV, wq_orV, bIf_bl, ite_both, ux_mulST, wp_notV, wp_if, wq_chain, wp_call, wp_sl, wp_nopart, wp_part, wp_bm, wp_iter, wp_rng1, wp_rng2, wp_lc, wp_bind, wp_ok, wp_up, Tg.set, setsD, List.getElem?_cons_zero, List.getElem?_cons_succ, List.set_cons_zero, List.set_cons_succ, List.length_cons, List.length_nil, and_self, if_true, reduceCtorEq, Nat.reduceAdd, List.map_cons, List.map_nil, Nat.reduceSub, List.replicate_succ, List.replicate_zero, List.cons_append, List.nil_append, ux_add, ux_iadd, ux_sub, ux_mul, ux_div, ux_mod, ux_pow, ux_neg, ux_eqI, ux_neI, ux_eqS, ux_neS, ux_lt, ux_le, ux_gt, ux_ge, ux_abs, ux_max, ux_min, ux_intI, ux_intB, ux_lst, ux_tup, mulOk_iff, true_or, or_true, ux_lenT, ux_lenF, ux_t0, ux_t1, ux_t2, ux_t3, ux_t4, ux_t5, isB, decide_eq_true_eq, Bool.not_eq_true', decide_eq_false_iff_not, i62, true_and, and_true, if_false, Int.reduceLT, Int.reduceLE, Int.reduceAbs, Nat.reduceLT, Nat.reduceLeDiff, Nat.reducePow, Int.reducePow, Int.reduceToNat, Int.reduceNeg, Nat.reduceEqDiff, or_self, not_true, not_false_eq_true, Bool.not_true, Bool.not_false, decide_true, decide_false, Bool.false_eq_true, len_map1, app2, app3, List.append_assoc, List.length_append, Nat.zero_add, Nat.add_zero, get_newc, get_new1, get_new2, get_new3, set_newc, set_new1, set_new2, it_str, it_tup, it_frl, gx_it, gx_isLs, gx_isTx, gx_len, gx_ixI, gx_ixS, gx_getI, gx_getS, ws_storeP, ws_aug2P, gx_stI, gx_stS, gx_app, gx_pop, gx_rev, gx_cat, gx_catT, gx_sl, gx_slT, gx_slF, gx_join, gx_joinT, gx_tup, gx_tupT, gx_tupF, gx_lst, gx_lstT, gx_lstF, gx_all, gx_notInK, Mn.atI_last, Mn.ixN_last, Mn.atI_0, gx_mulL, gx_mulT, ux_isB, ux_notB, ux_isNN, ux_notNN, ux_isSN, ux_notSN, ux_isIN, ux_notIN, ux_isTN, ux_notTN, ux_isRN, ux_notRN, gx_sort, gx_dct, Mn.atI_1, Mn.atI_2, Mn.atI_3, List.length_map, set_lastM, set_lastL, List.getLast?_concat, List.dropLast_concat, gcn_str, gcn_int, gcn_bl, gcn_non, gcs_str, gcs_int, gcs_bl, gcs_non, gcn_tup, gcs_tup, gcn_lst, gcn_lst1, gcn_lst2, refsL_strs, refsL_nil, refsL_s, refsL_i, refsL_n, refsL_b, refsL_t, refsL_app, ux_slS, ux_addS, ux_iaddS, ux_lenS, ux_ixS, ux_inT2, ux_inT3, findK_nil, findK_cons, putKD_nil, putKD_cons, gx_rvL, gx_rvF, gx_rvT, gx_rvS, gx_repl, ws_no, ux_neB, ux_eqB, txsOf_map, ws_forE, keyOf_str, keyOf_int, joinTx_nil, List.foldl_cons, List.foldl_nil, pD, pks, Pk.get, List.drop_zero, List.drop_succ_cons, List.take_succ_cons, List.take_zero])
  refine draw_then (b := b + 18) a3 (by omega) (by omega) fun r2 m2 s0 s1 b1 b2 b3 => ?_
  ((try dsimp only); try simp -implicitDefEqProofs only [ws_seq, ws_set, ws_par2, ws_exp, ws_ret, ws_if, ws_tg, ws_nil, ws_aug, thenR_nx, thenR_ret, thenR_bk, thenR_ct, wp_var, wp_con, wp_bin, wp_un, wp_nil, wp_cons, wp_fn, wp_test, wp_and, wp_or, wp_not, wq_andV, wq_orV, bIf_bl, ite_both, ux_mulST, wp_notV, wp_if, wq_chain, wp_call, wp_sl, wp_nopart, wp_part, wp_bm, wp_iter, wp_rng1, wp_rng2, wp_lc, wp_bind, wp_ok, wp_up, Tg.set, setsD, List.getElem?_cons_zero, List.getElem?_cons_succ, List.set_cons_zero, List.set_cons_succ, List.length_cons, List.length_nil, and_self, if_true, reduceCtorEq, Nat.reduceAdd, List.map_cons, List.map_nil, Nat.reduceSub, List.replicate_succ, List.replicate_zero, List.cons_append, List.nil_append, ux_add, ux_iadd, ux_sub, ux_mul, ux_div, ux_mod, ux_pow, ux_neg, ux_eqI, ux_neI, ux_eqS, ux_neS, ux_lt, ux_le, ux_gt, ux_ge, ux_abs, ux_max, ux_min, ux_intI, ux_intB, ux_lst, ux_tup, mulOk_iff, true_or, or_true, ux_lenT, ux_lenF, ux_t0, ux_t1, ux_t2, ux_t3, ux_t4, ux_t5, isB, decide_eq_true_eq, Bool.not_eq_true', decide_eq_false_iff_not, i62, true_and, and_true, if_false, Int.reduceLT, Int.reduceLE, Int.reduceAbs, Nat.reduceLT, Nat.reduceLeDiff, Nat.reducePow, Int.reducePow, Int.reduceToNat, Int.reduceNeg, Nat.reduceEqDiff, or_self, not_true, not_false_eq_true, Bool.not_true, Bool.not_false, decide_true, decide_false, Bool.false_eq_true, len_map1, app2, app3, List.append_assoc, List.length_append, Nat.zero_add, Nat.add_zero, get_newc, get_new1, get_new2, get_new3, set_newc, set_new1, set_new2, it_str, it_tup, it_frl, gx_it, gx_isLs, gx_isTx, gx_len, gx_ixI, gx_ixS, gx_getI, gx_getS, ws_storeP, ws_aug2P, gx_stI, gx_stS, gx_app, gx_pop, gx_rev, gx_cat, gx_catT, gx_sl, gx_slT, gx_slF, gx_join, gx_joinT, gx_tup, gx_tupT, gx_tupF, gx_lst, gx_lstT, gx_lstF, gx_all, gx_notInK, Mn.atI_last, Mn.ixN_last, Mn.atI_0, gx_mulL, gx_mulT, ux_isB, ux_notB, ux_isNN, ux_notNN, ux_isSN, ux_notSN, ux_isIN, ux_notIN, ux_isTN, ux_notTN, ux_isRN, ux_notRN, gx_sort, gx_dct, Mn.atI_1, Mn.atI_2, Mn.atI_3, List.length_map, set_lastM, set_lastL, List.getLast?_concat, List.dropLast_concat, gcn_str, gcn_int, gcn_bl, gcn_non, gcs_str, gcs_int, gcs_bl, gcs_non, gcn_tup, gcs_tup, gcn_lst, gcn_lst1, gcn_lst2, refsL_strs, refsL_nil, refsL_s, refsL_i, refsL_n, refsL_b, refsL_t, refsL_app, ux_slS, ux_addS, ux_iaddS, ux_lenS, ux_ixS, ux_inT2, ux_inT3, findK_nil, findK_cons, putKD_nil, putKD_cons, gx_rvL, gx_rvF, gx_rvT, gx_rvS, gx_repl, ws_no, ux_neB, ux_eqB, txsOf_map, ws_forE, keyOf_str, keyOf_int, joinTx_nil, List.foldl_cons, List.foldl_nil, pD, pks, Pk.get, List.drop_zero, List.drop_succ_cons, List.take_succ_cons, List.take_zero])
  refine draw_then (b := b + 17) b3 (by omega) (by omega) fun r3 m3 t0 t1 c1 c2 c3 => ?_
  ((try dsimp only); try simp -implicitDefEqProofs only [ws_seq, ws_set, ws_par2, ws_exp, ws_ret, ws_if, ws_tg, ws_nil, ws_aug, thenR_nx, thenR_ret, thenR_bk, thenR_ct, wp_var, wp_con, wp_bin, wp_un, wp_nil, wp_cons, wp_fn, wp_test, wp_and, wp_or, wp_not, wq_andV, wq_orV, bIf_bl, ite_both, ux_mulST, wp_notV, wp_if, wq_chain, wp_call, wp_sl, wp_nopart, wp_part, wp_bm, wp_iter, wp_rng1, wp_rng2, wp_lc, wp_bind, wp_ok, wp_up, Tg.set, setsD, List.getElem?_cons_zero, List.getElem?_cons_succ, List.set_cons_zero, List.set_cons_succ, List.length_cons, List.length_nil, and_self, if_true, reduceCtorEq, Nat.reduceAdd, List.map_cons, List.map_nil, Nat.reduceSub, List.replicate_succ, List.replicate_zero, List.cons_append, List.nil_append, ux_add, ux_iadd, ux_sub, ux_mul, ux_div, ux_mod, ux_pow, ux_neg, ux_eqI, ux_neI, ux_eqS, ux_neS, ux_lt, ux_le, ux_gt, ux_ge, ux_abs, ux_max, ux_min, ux_intI, ux_intB, ux_lst, ux_tup, mulOk_iff, true_or, or_true, ux_lenT, ux_lenF, ux_t0, ux_t1, ux_t2, ux_t3, ux_t4, ux_t5, isB, decide_eq_true_eq, Bool.not_eq_true', decide_eq_false_iff_not, i62, true_and, and_true, if_false, Int.reduceLT, Int.reduceLE, Int.reduceAbs, Nat.reduceLT, Nat.reduceLeDiff, Nat.reducePow, Int.reducePow, Int.reduceToNat, Int.reduceNeg, Nat.reduceEqDiff, or_self, not_true, not_false_eq_true, Bool.not_true, Bool.not_false, decide_true, decide_false, Bool.false_eq_true, len_map1, app2, app3, List.append_assoc, List.length_append, Nat.zero_add, Nat.add_zero, get_newc, get_new1, get_new2, get_new3, set_newc, set_new1, set_new2, it_str, it_tup, it_frl, gx_it, gx_isLs, gx_isTx, gx_len, gx_ixI, gx_ixS, gx_getI, gx_getS, ws_storeP, ws_aug2P, gx_stI, gx_stS, gx_app, gx_pop, gx_rev, gx_cat, gx_catT, gx_sl, gx_slT, gx_slF, gx_join, gx_joinT, gx_tup, gx_tupT, gx_tupF, gx_lst, gx_lstT, gx_lstF, gx_all, gx_notInK, Mn.atI_last, Mn.ixN_last, Mn.atI_0, gx_mulL, gx_mulT, ux_isB, ux_notB, ux_isNN, ux_notNN, ux_isSN, ux_notSN, ux_isIN, ux_notIN, ux_isTN, ux_notTN, ux_isRN, ux_notRN, gx_sort, gx_dct, Mn.atI_1, Mn.atI_2, Mn.atI_3, List.length_map, set_lastM, set_lastL, List.getLast?_concat, List.dropLast_concat, gcn_str, gcn_int, gcn_bl, gcn_non, gcs_str, gcs_int, gcs_bl, gcs_non, gcn_tup, gcs_tup, gcn_lst, gcn_lst1, gcn_lst2, refsL_strs, refsL_nil, refsL_s, refsL_i, refsL_n, refsL_b, refsL_t, refsL_app, ux_slS, ux_addS, ux_iaddS, ux_lenS, ux_ixS, ux_inT2, ux_inT3, findK_nil, findK_cons, putKD_nil, putKD_cons, gx_rvL, gx_rvF, gx_rvT, gx_rvS, gx_repl, ws_no, ux_neB, ux_eqB, txsOf_map, ws_forE, keyOf_str, keyOf_int, joinTx_nil, List.foldl_cons, List.foldl_nil, pD, pks, Pk.get, List.drop_zero, List.drop_succ_cons, List.take_succ_cons, List.take_zero])
  refine pick_then (b := b + 16) (q := m3.length) (xs := [.int (r - 5), .int (9990 + r2), .int (-9990 - r3), .int 0]) c3.app get_newc (by have := c3.lt; omega) (by simp) (by simp) (fun d hd => by
    simp at hd
    rcases hd with rfl | rfl | rfl | rfl <;> rfl) fun d m4 hd d1 d2 d3 => ?_
  obtain ⟨v, rfl, v1, v2⟩ : ∃ v : Int, d = .int v ∧ -9999 ≤ v ∧ v ≤ 9999 := by
    simp at hd
    rcases hd with h | h | h | h <;> exact ⟨_, h, by omega, by omega⟩
  have hF4 := d2.get (old_app (c2.get (b2.get (a2.get hF nF) nF) nF)) nF
  ((try dsimp only); try simp -implicitDefEqProofs only [ws_seq, ws_set, ws_par2, ws_exp, ws_ret, ws_if, ws_tg, ws_nil, ws_aug, thenR_nx, thenR_ret, thenR_bk, thenR_ct, wp_var, wp_con, wp_bin, wp_un, wp_nil, wp_cons, wp_fn, wp_test, wp_and, wp_or, wp_not, wq_andV, wq_orV, bIf_bl, ite_both, ux_mulST, wp_notV, wp_if, wq_chain, wp_call, wp_sl, wp_nopart, wp_part, wp_bm, wp_iter, wp_rng1, wp_rng2, wp_lc, wp_bind, wp_ok, wp_up, Tg.set, setsD, List.getElem?_cons_zero, List.getElem?_cons_succ, List.set_cons_zero, List.set_cons_succ, List.length_cons, List.length_nil, and_self, if_true, reduceCtorEq, Nat.reduceAdd, List.map_cons, List.map_nil, Nat.reduceSub, List.replicate_succ, List.replicate_zero, List.cons_append, List.nil_append, ux_add, ux_iadd, ux_sub, ux_mul, ux_div, ux_mod, ux_pow, ux_neg, ux_eqI, ux_neI, ux_eqS, ux_neS, ux_lt, ux_le, ux_gt, ux_ge, ux_abs, ux_max, ux_min, ux_intI, ux_intB, ux_lst, ux_tup, mulOk_iff, true_or, or_true, ux_lenT, ux_lenF, ux_t0, ux_t1, ux_t2, ux_t3, ux_t4, ux_t5, isB, decide_eq_true_eq, Bool.not_eq_true', decide_eq_false_iff_not, i62, true_and, and_true, if_false, Int.reduceLT, Int.reduceLE, Int.reduceAbs, Nat.reduceLT, Nat.reduceLeDiff, Nat.reducePow, Int.reducePow, Int.reduceToNat, Int.reduceNeg, Nat.reduceEqDiff, or_self, not_true, not_false_eq_true, Bool.not_true, Bool.not_false, decide_true, decide_false, Bool.false_eq_true, len_map1, app2, app3, List.append_assoc, List.length_append, Nat.zero_add, Nat.add_zero, get_newc, get_new1, get_new2, get_new3, set_newc, set_new1, set_new2, it_str, it_tup, it_frl, gx_it, gx_isLs, gx_isTx, gx_len, gx_ixI, gx_ixS, gx_getI, gx_getS, ws_storeP, ws_aug2P, gx_stI, gx_stS, gx_app, gx_pop, gx_rev, gx_cat, gx_catT, gx_sl, gx_slT, gx_slF, gx_join, gx_joinT, gx_tup, gx_tupT, gx_tupF, gx_lst, gx_lstT, gx_lstF, gx_all, gx_notInK, Mn.atI_last, Mn.ixN_last, Mn.atI_0, gx_mulL, gx_mulT, ux_isB, ux_notB, ux_isNN, ux_notNN, ux_isSN, ux_notSN, ux_isIN, ux_notIN, ux_isTN, ux_notTN, ux_isRN, ux_notRN, gx_sort, gx_dct, Mn.atI_1, Mn.atI_2, Mn.atI_3, List.length_map, set_lastM, set_lastL, List.getLast?_concat, List.dropLast_concat, gcn_str, gcn_int, gcn_bl, gcn_non, gcs_str, gcs_int, gcs_bl, gcs_non, gcn_tup, gcs_tup, gcn_lst, gcn_lst1, gcn_lst2, refsL_strs, refsL_nil, refsL_s, refsL_i, refsL_n, refsL_b, refsL_t, refsL_app, ux_slS, ux_addS, ux_iaddS, ux_lenS, ux_ixS, ux_inT2, ux_inT3, findK_nil, findK_cons, putKD_nil, putKD_cons, gx_rvL, gx_rvF, gx_rvT, gx_rvS, gx_repl, ws_no, ux_neB, ux_eqB, txsOf_map, ws_forE, keyOf_str, keyOf_int, joinTx_nil, List.foldl_cons, List.foldl_nil])
  unfold r4_law
  ((try dsimp only); try simp -implicitDefEqProofs only [ws_seq, ws_set, ws_par2, ws_exp, ws_ret, ws_if, ws_tg, ws_nil, ws_aug, thenR_nx, thenR_ret, thenR_bk, thenR_ct, wp_var, wp_con, wp_bin, wp_un, wp_nil, wp_cons, wp_fn, wp_test, wp_and, wp_or, wp_not, wq_andV, wq_orV, bIf_bl, ite_both, ux_mulST, wp_notV, wp_if, wq_chain, wp_call, wp_sl, wp_nopart, wp_part, wp_bm, wp_iter, wp_rng1, wp_rng2, wp_lc, wp_bind, wp_ok, wp_up, Tg.set, setsD, List.getElem?_cons_zero, List.getElem?_cons_succ, List.set_cons_zero, List.set_cons_succ, List.length_cons, List.length_nil, and_self, if_true, reduceCtorEq, Nat.reduceAdd, List.map_cons, List.map_nil, Nat.reduceSub, List.replicate_succ, List.replicate_zero, List.cons_append, List.nil_append, ux_add, ux_iadd, ux_sub, ux_mul, ux_div, ux_mod, ux_pow, ux_neg, ux_eqI, ux_neI, ux_eqS, ux_neS, ux_lt, ux_le, ux_gt, ux_ge, ux_abs, ux_max, ux_min, ux_intI, ux_intB, ux_lst, ux_tup, mulOk_iff, true_or, or_true, ux_lenT, ux_lenF, ux_t0, ux_t1, ux_t2, ux_t3, ux_t4, ux_t5, isB, decide_eq_true_eq, Bool.not_eq_true', decide_eq_false_iff_not, i62, true_and, and_true, if_false, Int.reduceLT, Int.reduceLE, Int.reduceAbs, Nat.reduceLT, Nat.reduceLeDiff, Nat.reducePow, Int.reducePow, Int.reduceToNat, Int.reduceNeg, Nat.reduceEqDiff, or_self, not_true, not_false_eq_true, Bool.not_true, Bool.not_false, decide_true, decide_false, Bool.false_eq_true, len_map1, app2, app3, List.append_assoc, List.length_append, Nat.zero_add, Nat.add_zero, get_newc, get_new1, get_new2, get_new3, set_newc, set_new1, set_new2, it_str, it_tup, it_frl, gx_it, gx_isLs, gx_isTx, gx_len, gx_ixI, gx_ixS, gx_getI, gx_getS, ws_storeP, ws_aug2P, gx_stI, gx_stS, gx_app, gx_pop, gx_rev, gx_cat, gx_catT, gx_sl, gx_slT, gx_slF, gx_join, gx_joinT, gx_tup, gx_tupT, gx_tupF, gx_lst, gx_lstT, gx_lstF, gx_all, gx_notInK, Mn.atI_last, Mn.ixN_last, Mn.atI_0, gx_mulL, gx_mulT, ux_isB, ux_notB, ux_isNN, ux_notNN, ux_isSN, ux_notSN, ux_isIN, ux_notIN, ux_isTN, ux_notTN, ux_isRN, ux_notRN, gx_sort, gx_dct, Mn.atI_1, Mn.atI_2, Mn.atI_3, List.length_map, set_lastM, set_lastL, List.getLast?_concat, List.dropLast_concat, gcn_str, gcn_int, gcn_bl, gcn_non, gcs_str, gcs_int, gcs_bl, gcs_non, gcn_tup, gcs_tup, gcn_lst, gcn_lst1, gcn_lst2, refsL_strs, refsL_nil, refsL_s, refsL_i, refsL_n, refsL_b, refsL_t, refsL_app, ux_slS, ux_addS, ux_iaddS, ux_lenS, ux_ixS, ux_inT2, ux_inT3, findK_nil, findK_cons, putKD_nil, putKD_cons, gx_rvL, gx_rvF, gx_rvT, gx_rvS, gx_repl, ws_no, ux_neB, ux_eqB, txsOf_map, ws_forE, keyOf_str, keyOf_int, joinTx_nil, List.foldl_cons, List.foldl_nil, pD, pks, Pk.get, List.drop_zero, List.drop_succ_cons, List.take_succ_cons, List.take_zero])
  refine draw_then (b := b + 15) d3 (by omega) (by omega) fun r5 m5 u0 u1 e1 e2 e3 => ?_
  ((try dsimp only); try simp -implicitDefEqProofs only [ws_seq, ws_set, ws_par2, ws_exp, ws_ret, ws_if, ws_tg, ws_nil, ws_aug, thenR_nx, thenR_ret, thenR_bk, thenR_ct, wp_var, wp_con, wp_bin, wp_un, wp_nil, wp_cons, wp_fn, wp_test, wp_and, wp_or, wp_not, wq_andV, wq_orV, bIf_bl, ite_both, ux_mulST, wp_notV, wp_if, wq_chain, wp_call, wp_sl, wp_nopart, wp_part, wp_bm, wp_iter, wp_rng1, wp_rng2, wp_lc, wp_bind, wp_ok, wp_up, Tg.set, setsD, List.getElem?_cons_zero, List.getElem?_cons_succ, List.set_cons_zero, List.set_cons_succ, List.length_cons, List.length_nil, and_self, if_true, reduceCtorEq, Nat.reduceAdd, List.map_cons, List.map_nil, Nat.reduceSub, List.replicate_succ, List.replicate_zero, List.cons_append, List.nil_append, ux_add, ux_iadd, ux_sub, ux_mul, ux_div, ux_mod, ux_pow, ux_neg, ux_eqI, ux_neI, ux_eqS, ux_neS, ux_lt, ux_le, ux_gt, ux_ge, ux_abs, ux_max, ux_min, ux_intI, ux_intB, ux_lst, ux_tup, mulOk_iff, true_or, or_true, ux_lenT, ux_lenF, ux_t0, ux_t1, ux_t2, ux_t3, ux_t4, ux_t5, isB, decide_eq_true_eq, Bool.not_eq_true', decide_eq_false_iff_not, i62, true_and, and_true, if_false, Int.reduceLT, Int.reduceLE, Int.reduceAbs, Nat.reduceLT, Nat.reduceLeDiff, Nat.reducePow, Int.reducePow, Int.reduceToNat, Int.reduceNeg, Nat.reduceEqDiff, or_self, not_true, not_false_eq_true, Bool.not_true, Bool.not_false, decide_true, decide_false, Bool.false_eq_true, len_map1, app2, app3, List.append_assoc, List.length_append, Nat.zero_add, Nat.add_zero, get_newc, get_new1, get_new2, get_new3, set_newc, set_new1, set_new2, it_str, it_tup, it_frl, gx_it, gx_isLs, gx_isTx, gx_len, gx_ixI, gx_ixS, gx_getI, gx_getS, ws_storeP, ws_aug2P, gx_stI, gx_stS, gx_app, gx_pop, gx_rev, gx_cat, gx_catT, gx_sl, gx_slT, gx_slF, gx_join, gx_joinT, gx_tup, gx_tupT, gx_tupF, gx_lst, gx_lstT, gx_lstF, gx_all, gx_notInK, Mn.atI_last, Mn.ixN_last, Mn.atI_0, gx_mulL, gx_mulT, ux_isB, ux_notB, ux_isNN, ux_notNN, ux_isSN, ux_notSN, ux_isIN, ux_notIN, ux_isTN, ux_notTN, ux_isRN, ux_notRN, gx_sort, gx_dct, Mn.atI_1, Mn.atI_2, Mn.atI_3, List.length_map, set_lastM, set_lastL, List.getLast?_concat, List.dropLast_concat, gcn_str, gcn_int, gcn_bl, gcn_non, gcs_str, gcs_int, gcs_bl, gcs_non, gcn_tup, gcs_tup, gcn_lst, gcn_lst1, gcn_lst2, refsL_strs, refsL_nil, refsL_s, refsL_i, refsL_n, refsL_b, refsL_t, refsL_app, ux_slS, ux_addS, ux_iaddS, ux_lenS, ux_ixS, ux_inT2, ux_inT3, findK_nil, findK_cons, putKD_nil, putKD_cons, gx_rvL, gx_rvF, gx_rvT, gx_rvS, gx_repl, ws_no, ux_neB, ux_eqB, txsOf_map, ws_forE, keyOf_str, keyOf_int, joinTx_nil, List.foldl_cons, List.foldl_nil, pD, pks, Pk.get, List.drop_zero, List.drop_succ_cons, List.take_succ_cons, List.take_zero])
  refine pick_then (b := b + 14) (q := m5.length) (xs := [.int 0, .int 1, .int (-1), .int 7, .int (-7), .int 9999, .int (-9999), .int (r5 - 4)]) e3.app get_newc (by have := e3.lt; omega) (by simp) (by simp) (fun d hd => by
    simp at hd
    rcases hd with rfl | rfl | rfl | rfl | rfl | rfl | rfl | rfl <;> rfl) fun d m6 hd f1 f2 f3 => ?_
  obtain ⟨s, rfl, s1, s2⟩ : ∃ v : Int, d = .int v ∧ -9999 ≤ v ∧ v ≤ 9999 := by
    simp at hd
    rcases hd with h | h | h | h | h | h | h | h <;> exact ⟨_, h, by omega, by omega⟩
  have hF6 := f2.get (old_app (e2.get hF4 nF)) nF
  ((try dsimp only); try simp -implicitDefEqProofs only [ws_seq, ws_set, ws_par2, ws_exp, ws_ret, ws_if, ws_tg, ws_nil, ws_aug, thenR_nx, thenR_ret, thenR_bk, thenR_ct, wp_var, wp_con, wp_bin, wp_un, wp_nil, wp_cons, wp_fn, wp_test, wp_and, wp_or, wp_not, wq_andV, wq_orV, bIf_bl, ite_both, ux_mulST, wp_notV, wp_if, wq_chain, wp_call, wp_sl, wp_nopart, wp_part, wp_bm, wp_iter, wp_rng1, wp_rng2, wp_lc, wp_bind, wp_ok, wp_up, Tg.set, setsD, List.getElem?_cons_zero, List.getElem?_cons_succ, List.set_cons_zero, List.set_cons_succ, List.length_cons, List.length_nil, and_self, if_true, reduceCtorEq, Nat.reduceAdd, List.map_cons, List.map_nil, Nat.reduceSub, List.replicate_succ, List.replicate_zero, List.cons_append, List.nil_append, ux_add, ux_iadd, ux_sub, ux_mul, ux_div, ux_mod, ux_pow, ux_neg, ux_eqI, ux_neI, ux_eqS, ux_neS, ux_lt, ux_le, ux_gt, ux_ge, ux_abs, ux_max, ux_min, ux_intI, ux_intB, ux_lst, ux_tup, mulOk_iff, true_or, or_true, ux_lenT, ux_lenF, ux_t0, ux_t1, ux_t2, ux_t3, ux_t4, ux_t5, isB, decide_eq_true_eq, Bool.not_eq_true', decide_eq_false_iff_not, i62, true_and, and_true, if_false, Int.reduceLT, Int.reduceLE, Int.reduceAbs, Nat.reduceLT, Nat.reduceLeDiff, Nat.reducePow, Int.reducePow, Int.reduceToNat, Int.reduceNeg, Nat.reduceEqDiff, or_self, not_true, not_false_eq_true, Bool.not_true, Bool.not_false, decide_true, decide_false, Bool.false_eq_true, len_map1, app2, app3, List.append_assoc, List.length_append, Nat.zero_add, Nat.add_zero, get_newc, get_new1, get_new2, get_new3, set_newc, set_new1, set_new2, it_str, it_tup, it_frl, gx_it, gx_isLs, gx_isTx, gx_len, gx_ixI, gx_ixS, gx_getI, gx_getS, ws_storeP, ws_aug2P, gx_stI, gx_stS, gx_app, gx_pop, gx_rev, gx_cat, gx_catT, gx_sl, gx_slT, gx_slF, gx_join, gx_joinT, gx_tup, gx_tupT, gx_tupF, gx_lst, gx_lstT, gx_lstF, gx_all, gx_notInK, Mn.atI_last, Mn.ixN_last, Mn.atI_0, gx_mulL, gx_mulT, ux_isB, ux_notB, ux_isNN, ux_notNN, ux_isSN, ux_notSN, ux_isIN, ux_notIN, ux_isTN, ux_notTN, ux_isRN, ux_notRN, gx_sort, gx_dct, Mn.atI_1, Mn.atI_2, Mn.atI_3, List.length_map, set_lastM, set_lastL, List.getLast?_concat, List.dropLast_concat, gcn_str, gcn_int, gcn_bl, gcn_non, gcs_str, gcs_int, gcs_bl, gcs_non, gcn_tup, gcs_tup, gcn_lst, gcn_lst1, gcn_lst2, refsL_strs, refsL_nil, refsL_s, refsL_i, refsL_n, refsL_b, refsL_t, refsL_app, ux_slS, ux_addS, ux_iaddS, ux_lenS, ux_ixS, ux_inT2, ux_inT3, findK_nil, findK_cons, putKD_nil, putKD_cons, gx_rvL, gx_rvF, gx_rvT, gx_rvS, gx_repl, ws_no, ux_neB, ux_eqB, txsOf_map, ws_forE, keyOf_str, keyOf_int, joinTx_nil, List.foldl_cons, List.foldl_nil])
  unfold r3_law
  ((try dsimp only); try simp -implicitDefEqProofs only [ws_seq, ws_set, ws_par2, ws_exp, ws_ret, ws_if, ws_tg, ws_nil, ws_aug, thenR_nx, thenR_ret, thenR_bk, thenR_ct, wp_var, wp_con, wp_bin, wp_un, wp_nil, wp_cons, wp_fn, wp_test, wp_and, wp_or, wp_not, wq_andV, wq_orV, bIf_bl, ite_both, ux_mulST, wp_notV, wp_if, wq_chain, wp_call, wp_sl, wp_nopart, wp_part, wp_bm, wp_iter, wp_rng1, wp_rng2, wp_lc, wp_bind, wp_ok, wp_up, Tg.set, setsD, List.getElem?_cons_zero, List.getElem?_cons_succ, List.set_cons_zero, List.set_cons_succ, List.length_cons, List.length_nil, and_self, if_true, reduceCtorEq, Nat.reduceAdd, List.map_cons, List.map_nil, Nat.reduceSub, List.replicate_succ, List.replicate_zero, List.cons_append, List.nil_append, ux_add, ux_iadd, ux_sub, ux_mul, ux_div, ux_mod, ux_pow, ux_neg, ux_eqI, ux_neI, ux_eqS, ux_neS, ux_lt, ux_le, ux_gt, ux_ge, ux_abs, ux_max, ux_min, ux_intI, ux_intB, ux_lst, ux_tup, mulOk_iff, true_or, or_true, ux_lenT, ux_lenF, ux_t0, ux_t1, ux_t2, ux_t3, ux_t4, ux_t5, isB, decide_eq_true_eq, Bool.not_eq_true', decide_eq_false_iff_not, i62, true_and, and_true, if_false, Int.reduceLT, Int.reduceLE, Int.reduceAbs, Nat.reduceLT, Nat.reduceLeDiff, Nat.reducePow, Int.reducePow, Int.reduceToNat, Int.reduceNeg, Nat.reduceEqDiff, or_self, not_true, not_false_eq_true, Bool.not_true, Bool.not_false, decide_true, decide_false, Bool.false_eq_true, len_map1, app2, app3, List.append_assoc, List.length_append, Nat.zero_add, Nat.add_zero, get_newc, get_new1, get_new2, get_new3, set_newc, set_new1, set_new2, it_str, it_tup, it_frl, gx_it, gx_isLs, gx_isTx, gx_len, gx_ixI, gx_ixS, gx_getI, gx_getS, ws_storeP, ws_aug2P, gx_stI, gx_stS, gx_app, gx_pop, gx_rev, gx_cat, gx_catT, gx_sl, gx_slT, gx_slF, gx_join, gx_joinT, gx_tup, gx_tupT, gx_tupF, gx_lst, gx_lstT, gx_lstF, gx_all, gx_notInK, Mn.atI_last, Mn.ixN_last, Mn.atI_0, gx_mulL, gx_mulT, ux_isB, ux_notB, ux_isNN, ux_notNN, ux_isSN, ux_notSN, ux_isIN, ux_notIN, ux_isTN, ux_notTN, ux_isRN, ux_notRN, gx_sort, gx_dct, Mn.atI_1, Mn.atI_2, Mn.atI_3, List.length_map, set_lastM, set_lastL, List.getLast?_concat, List.dropLast_concat, gcn_str, gcn_int, gcn_bl, gcn_non, gcs_str, gcs_int, gcs_bl, gcs_non, gcn_tup, gcs_tup, gcn_lst, gcn_lst1, gcn_lst2, refsL_strs, refsL_nil, refsL_s, refsL_i, refsL_n, refsL_b, refsL_t, refsL_app, ux_slS, ux_addS, ux_iaddS, ux_lenS, ux_ixS, ux_inT2, ux_inT3, findK_nil, findK_cons, putKD_nil, putKD_cons, gx_rvL, gx_rvF, gx_rvT, gx_rvS, gx_repl, ws_no, ux_neB, ux_eqB, txsOf_map, ws_forE, keyOf_str, keyOf_int, joinTx_nil, List.foldl_cons, List.foldl_nil, pD, pks, Pk.get, List.drop_zero, List.drop_succ_cons, List.take_succ_cons, List.take_zero])
  refine draw_then (b := b + 13) f3 (by omega) (by omega) fun ov m7 o0 o1 g1 g2 g3 => ?_
  have hF7 := g2.get hF6 nF
  ((try dsimp only); try simp -implicitDefEqProofs only [ws_seq, ws_set, ws_par2, ws_exp, ws_ret, ws_if, ws_tg, ws_nil, ws_aug, thenR_nx, thenR_ret, thenR_bk, thenR_ct, wp_var, wp_con, wp_bin, wp_un, wp_nil, wp_cons, wp_fn, wp_test, wp_and, wp_or, wp_not, wq_andV, wq_orV, bIf_bl, ite_both, ux_mulST, wp_notV, wp_if, wq_chain, wp_call, wp_sl, wp_nopart, wp_part, wp_bm, wp_iter, wp_rng1, wp_rng2, wp_lc, wp_bind, wp_ok, wp_up, Tg.set, setsD, List.getElem?_cons_zero, List.getElem?_cons_succ, List.set_cons_zero, List.set_cons_succ, List.length_cons, List.length_nil, and_self, if_true, reduceCtorEq, Nat.reduceAdd, List.map_cons, List.map_nil, Nat.reduceSub, List.replicate_succ, List.replicate_zero, List.cons_append, List.nil_append, ux_add, ux_iadd, ux_sub, ux_mul, ux_div, ux_mod, ux_pow, ux_neg, ux_eqI, ux_neI, ux_eqS, ux_neS, ux_lt, ux_le, ux_gt, ux_ge, ux_abs, ux_max, ux_min, ux_intI, ux_intB, ux_lst, ux_tup, mulOk_iff, true_or, or_true, ux_lenT, ux_lenF, ux_t0, ux_t1, ux_t2, ux_t3, ux_t4, ux_t5, isB, decide_eq_true_eq, Bool.not_eq_true', decide_eq_false_iff_not, i62, true_and, and_true, if_false, Int.reduceLT, Int.reduceLE, Int.reduceAbs, Nat.reduceLT, Nat.reduceLeDiff, Nat.reducePow, Int.reducePow, Int.reduceToNat, Int.reduceNeg, Nat.reduceEqDiff, or_self, not_true, not_false_eq_true, Bool.not_true, Bool.not_false, decide_true, decide_false, Bool.false_eq_true, len_map1, app2, app3, List.append_assoc, List.length_append, Nat.zero_add, Nat.add_zero, get_newc, get_new1, get_new2, get_new3, set_newc, set_new1, set_new2, it_str, it_tup, it_frl, gx_it, gx_isLs, gx_isTx, gx_len, gx_ixI, gx_ixS, gx_getI, gx_getS, ws_storeP, ws_aug2P, gx_stI, gx_stS, gx_app, gx_pop, gx_rev, gx_cat, gx_catT, gx_sl, gx_slT, gx_slF, gx_join, gx_joinT, gx_tup, gx_tupT, gx_tupF, gx_lst, gx_lstT, gx_lstF, gx_all, gx_notInK, Mn.atI_last, Mn.ixN_last, Mn.atI_0, gx_mulL, gx_mulT, ux_isB, ux_notB, ux_isNN, ux_notNN, ux_isSN, ux_notSN, ux_isIN, ux_notIN, ux_isTN, ux_notTN, ux_isRN, ux_notRN, gx_sort, gx_dct, Mn.atI_1, Mn.atI_2, Mn.atI_3, List.length_map, set_lastM, set_lastL, List.getLast?_concat, List.dropLast_concat, gcn_str, gcn_int, gcn_bl, gcn_non, gcs_str, gcs_int, gcs_bl, gcs_non, gcn_tup, gcs_tup, gcn_lst, gcn_lst1, gcn_lst2, refsL_strs, refsL_nil, refsL_s, refsL_i, refsL_n, refsL_b, refsL_t, refsL_app, ux_slS, ux_addS, ux_iaddS, ux_lenS, ux_ixS, ux_inT2, ux_inT3, findK_nil, findK_cons, putKD_nil, putKD_cons, gx_rvL, gx_rvF, gx_rvT, gx_rvS, gx_repl, ws_no, ux_neB, ux_eqB, txsOf_map, ws_forE, keyOf_str, keyOf_int, joinTx_nil, List.foldl_cons, List.foldl_nil, pD, pks, Pk.get, List.drop_zero, List.drop_succ_cons, List.take_succ_cons, List.take_zero])
  refine pick_then (b := b + 12) (q := F) g3 hF7 nF (by simp [formsD]) (by simp [formsD]) fr fun d m8 hd k1 k2 k3 => ?_
  obtain ⟨of, rfl, hof⟩ := forms_ok hd
  have hF8 := k2.get hF7 nF
  ((try dsimp only); try simp -implicitDefEqProofs only [ws_seq, ws_set, ws_par2, ws_exp, ws_ret, ws_if, ws_tg, ws_nil, ws_aug, thenR_nx, thenR_ret, thenR_bk, thenR_ct, wp_var, wp_con, wp_bin, wp_un, wp_nil, wp_cons, wp_fn, wp_test, wp_and, wp_or, wp_not, wq_andV, wq_orV, bIf_bl, ite_both, ux_mulST, wp_notV, wp_if, wq_chain, wp_call, wp_sl, wp_nopart, wp_part, wp_bm, wp_iter, wp_rng1, wp_rng2, wp_lc, wp_bind, wp_ok, wp_up, Tg.set, setsD, List.getElem?_cons_zero, List.getElem?_cons_succ, List.set_cons_zero, List.set_cons_succ, List.length_cons, List.length_nil, and_self, if_true, reduceCtorEq, Nat.reduceAdd, List.map_cons, List.map_nil, Nat.reduceSub, List.replicate_succ, List.replicate_zero, List.cons_append, List.nil_append, ux_add, ux_iadd, ux_sub, ux_mul, ux_div, ux_mod, ux_pow, ux_neg, ux_eqI, ux_neI, ux_eqS, ux_neS, ux_lt, ux_le, ux_gt, ux_ge, ux_abs, ux_max, ux_min, ux_intI, ux_intB, ux_lst, ux_tup, mulOk_iff, true_or, or_true, ux_lenT, ux_lenF, ux_t0, ux_t1, ux_t2, ux_t3, ux_t4, ux_t5, isB, decide_eq_true_eq, Bool.not_eq_true', decide_eq_false_iff_not, i62, true_and, and_true, if_false, Int.reduceLT, Int.reduceLE, Int.reduceAbs, Nat.reduceLT, Nat.reduceLeDiff, Nat.reducePow, Int.reducePow, Int.reduceToNat, Int.reduceNeg, Nat.reduceEqDiff, or_self, not_true, not_false_eq_true, Bool.not_true, Bool.not_false, decide_true, decide_false, Bool.false_eq_true, len_map1, app2, app3, List.append_assoc, List.length_append, Nat.zero_add, Nat.add_zero, get_newc, get_new1, get_new2, get_new3, set_newc, set_new1, set_new2, it_str, it_tup, it_frl, gx_it, gx_isLs, gx_isTx, gx_len, gx_ixI, gx_ixS, gx_getI, gx_getS, ws_storeP, ws_aug2P, gx_stI, gx_stS, gx_app, gx_pop, gx_rev, gx_cat, gx_catT, gx_sl, gx_slT, gx_slF, gx_join, gx_joinT, gx_tup, gx_tupT, gx_tupF, gx_lst, gx_lstT, gx_lstF, gx_all, gx_notInK, Mn.atI_last, Mn.ixN_last, Mn.atI_0, gx_mulL, gx_mulT, ux_isB, ux_notB, ux_isNN, ux_notNN, ux_isSN, ux_notSN, ux_isIN, ux_notIN, ux_isTN, ux_notTN, ux_isRN, ux_notRN, gx_sort, gx_dct, Mn.atI_1, Mn.atI_2, Mn.atI_3, List.length_map, set_lastM, set_lastL, List.getLast?_concat, List.dropLast_concat, gcn_str, gcn_int, gcn_bl, gcn_non, gcs_str, gcs_int, gcs_bl, gcs_non, gcn_tup, gcs_tup, gcn_lst, gcn_lst1, gcn_lst2, refsL_strs, refsL_nil, refsL_s, refsL_i, refsL_n, refsL_b, refsL_t, refsL_app, ux_slS, ux_addS, ux_iaddS, ux_lenS, ux_ixS, ux_inT2, ux_inT3, findK_nil, findK_cons, putKD_nil, putKD_cons, gx_rvL, gx_rvF, gx_rvT, gx_rvS, gx_repl, ws_no, ux_neB, ux_eqB, txsOf_map, ws_forE, keyOf_str, keyOf_int, joinTx_nil, List.foldl_cons, List.foldl_nil])
  unfold r2_law
  ((try dsimp only); try simp -implicitDefEqProofs only [ws_seq, ws_set, ws_par2, ws_exp, ws_ret, ws_if, ws_tg, ws_nil, ws_aug, thenR_nx, thenR_ret, thenR_bk, thenR_ct, wp_var, wp_con, wp_bin, wp_un, wp_nil, wp_cons, wp_fn, wp_test, wp_and, wp_or, wp_not, wq_andV, wq_orV, bIf_bl, ite_both, ux_mulST, wp_notV, wp_if, wq_chain, wp_call, wp_sl, wp_nopart, wp_part, wp_bm, wp_iter, wp_rng1, wp_rng2, wp_lc, wp_bind, wp_ok, wp_up, Tg.set, setsD, List.getElem?_cons_zero, List.getElem?_cons_succ, List.set_cons_zero, List.set_cons_succ, List.length_cons, List.length_nil, and_self, if_true, reduceCtorEq, Nat.reduceAdd, List.map_cons, List.map_nil, Nat.reduceSub, List.replicate_succ, List.replicate_zero, List.cons_append, List.nil_append, ux_add, ux_iadd, ux_sub, ux_mul, ux_div, ux_mod, ux_pow, ux_neg, ux_eqI, ux_neI, ux_eqS, ux_neS, ux_lt, ux_le, ux_gt, ux_ge, ux_abs, ux_max, ux_min, ux_intI, ux_intB, ux_lst, ux_tup, mulOk_iff, true_or, or_true, ux_lenT, ux_lenF, ux_t0, ux_t1, ux_t2, ux_t3, ux_t4, ux_t5, isB, decide_eq_true_eq, Bool.not_eq_true', decide_eq_false_iff_not, i62, true_and, and_true, if_false, Int.reduceLT, Int.reduceLE, Int.reduceAbs, Nat.reduceLT, Nat.reduceLeDiff, Nat.reducePow, Int.reducePow, Int.reduceToNat, Int.reduceNeg, Nat.reduceEqDiff, or_self, not_true, not_false_eq_true, Bool.not_true, Bool.not_false, decide_true, decide_false, Bool.false_eq_true, len_map1, app2, app3, List.append_assoc, List.length_append, Nat.zero_add, Nat.add_zero, get_newc, get_new1, get_new2, get_new3, set_newc, set_new1, set_new2, it_str, it_tup, it_frl, gx_it, gx_isLs, gx_isTx, gx_len, gx_ixI, gx_ixS, gx_getI, gx_getS, ws_storeP, ws_aug2P, gx_stI, gx_stS, gx_app, gx_pop, gx_rev, gx_cat, gx_catT, gx_sl, gx_slT, gx_slF, gx_join, gx_joinT, gx_tup, gx_tupT, gx_tupF, gx_lst, gx_lstT, gx_lstF, gx_all, gx_notInK, Mn.atI_last, Mn.ixN_last, Mn.atI_0, gx_mulL, gx_mulT, ux_isB, ux_notB, ux_isNN, ux_notNN, ux_isSN, ux_notSN, ux_isIN, ux_notIN, ux_isTN, ux_notTN, ux_isRN, ux_notRN, gx_sort, gx_dct, Mn.atI_1, Mn.atI_2, Mn.atI_3, List.length_map, set_lastM, set_lastL, List.getLast?_concat, List.dropLast_concat, gcn_str, gcn_int, gcn_bl, gcn_non, gcs_str, gcs_int, gcs_bl, gcs_non, gcn_tup, gcs_tup, gcn_lst, gcn_lst1, gcn_lst2, refsL_strs, refsL_nil, refsL_s, refsL_i, refsL_n, refsL_b, refsL_t, refsL_app, ux_slS, ux_addS, ux_iaddS, ux_lenS, ux_ixS, ux_inT2, ux_inT3, findK_nil, findK_cons, putKD_nil, putKD_cons, gx_rvL, gx_rvF, gx_rvT, gx_rvS, gx_repl, ws_no, ux_neB, ux_eqB, txsOf_map, ws_forE, keyOf_str, keyOf_int, joinTx_nil, List.foldl_cons, List.foldl_nil, pD, pks, Pk.get, List.drop_zero, List.drop_succ_cons, List.take_succ_cons, List.take_zero])
  refine pick_then (b := b + 11) (q := F) k3 hF8 nF (by simp [formsD]) (by simp [formsD]) fr fun d m9 hd l1 l2 l3 => ?_
  obtain ⟨vf, rfl, hvf⟩ := forms_ok hd
  have hF9 := l2.get hF8 nF
  ((try dsimp only); try simp -implicitDefEqProofs only [ws_seq, ws_set, ws_par2, ws_exp, ws_ret, ws_if, ws_tg, ws_nil, ws_aug, thenR_nx, thenR_ret, thenR_bk, thenR_ct, wp_var, wp_con, wp_bin, wp_un, wp_nil, wp_cons, wp_fn, wp_test, wp_and, wp_or, wp_not, wq_andV, wq_orV, bIf_bl, ite_both, ux_mulST, wp_notV, wp_if, wq_chain, wp_call, wp_sl, wp_nopart, wp_part, wp_bm, wp_iter, wp_rng1, wp_rng2, wp_lc, wp_bind, wp_ok, wp_up, Tg.set, setsD, List.getElem?_cons_zero, List.getElem?_cons_succ, List.set_cons_zero, List.set_cons_succ, List.length_cons, List.length_nil, and_self, if_true, reduceCtorEq, Nat.reduceAdd, List.map_cons, List.map_nil, Nat.reduceSub, List.replicate_succ, List.replicate_zero, List.cons_append, List.nil_append, ux_add, ux_iadd, ux_sub, ux_mul, ux_div, ux_mod, ux_pow, ux_neg, ux_eqI, ux_neI, ux_eqS, ux_neS, ux_lt, ux_le, ux_gt, ux_ge, ux_abs, ux_max, ux_min, ux_intI, ux_intB, ux_lst, ux_tup, mulOk_iff, true_or, or_true, ux_lenT, ux_lenF, ux_t0, ux_t1, ux_t2, ux_t3, ux_t4, ux_t5, isB, decide_eq_true_eq, Bool.not_eq_true', decide_eq_false_iff_not, i62, true_and, and_true, if_false, Int.reduceLT, Int.reduceLE, Int.reduceAbs, Nat.reduceLT, Nat.reduceLeDiff, Nat.reducePow, Int.reducePow, Int.reduceToNat, Int.reduceNeg, Nat.reduceEqDiff, or_self, not_true, not_false_eq_true, Bool.not_true, Bool.not_false, decide_true, decide_false, Bool.false_eq_true, len_map1, app2, app3, List.append_assoc, List.length_append, Nat.zero_add, Nat.add_zero, get_newc, get_new1, get_new2, get_new3, set_newc, set_new1, set_new2, it_str, it_tup, it_frl, gx_it, gx_isLs, gx_isTx, gx_len, gx_ixI, gx_ixS, gx_getI, gx_getS, ws_storeP, ws_aug2P, gx_stI, gx_stS, gx_app, gx_pop, gx_rev, gx_cat, gx_catT, gx_sl, gx_slT, gx_slF, gx_join, gx_joinT, gx_tup, gx_tupT, gx_tupF, gx_lst, gx_lstT, gx_lstF, gx_all, gx_notInK, Mn.atI_last, Mn.ixN_last, Mn.atI_0, gx_mulL, gx_mulT, ux_isB, ux_notB, ux_isNN, ux_notNN, ux_isSN, ux_notSN, ux_isIN, ux_notIN, ux_isTN, ux_notTN, ux_isRN, ux_notRN, gx_sort, gx_dct, Mn.atI_1, Mn.atI_2, Mn.atI_3, List.length_map, set_lastM, set_lastL, List.getLast?_concat, List.dropLast_concat, gcn_str, gcn_int, gcn_bl, gcn_non, gcs_str, gcs_int, gcs_bl, gcs_non, gcn_tup, gcs_tup, gcn_lst, gcn_lst1, gcn_lst2, refsL_strs, refsL_nil, refsL_s, refsL_i, refsL_n, refsL_b, refsL_t, refsL_app, ux_slS, ux_addS, ux_iaddS, ux_lenS, ux_ixS, ux_inT2, ux_inT3, findK_nil, findK_cons, putKD_nil, putKD_cons, gx_rvL, gx_rvF, gx_rvT, gx_rvS, gx_repl, ws_no, ux_neB, ux_eqB, txsOf_map, ws_forE, keyOf_str, keyOf_int, joinTx_nil, List.foldl_cons, List.foldl_nil, pD, pks, Pk.get, List.drop_zero, List.drop_succ_cons, List.take_succ_cons, List.take_zero])
  refine draw_then (b := b + 10) l3 (by omega) (by omega) fun n mA n0 n1 p1 p2 p3 => ?_
  have hFA := p2.get hF9 nF
  obtain ⟨k, rfl⟩ : ∃ k : Nat, n = (k : Nat) := ⟨n.toNat, by omega⟩
  ((try dsimp only); try simp -implicitDefEqProofs only [ws_seq, ws_set, ws_par2, ws_exp, ws_ret, ws_if, ws_tg, ws_nil, ws_aug, thenR_nx, thenR_ret, thenR_bk, thenR_ct, wp_var, wp_con, wp_bin, wp_un, wp_nil, wp_cons, wp_fn, wp_test, wp_and, wp_or, wp_not, wq_andV, wq_orV, bIf_bl, ite_both, ux_mulST, wp_notV, wp_if, wq_chain, wp_call, wp_sl, wp_nopart, wp_part, wp_bm, wp_iter, wp_rng1, wp_rng2, wp_lc, wp_bind, wp_ok, wp_up, Tg.set, setsD, List.getElem?_cons_zero, List.getElem?_cons_succ, List.set_cons_zero, List.set_cons_succ, List.length_cons, List.length_nil, and_self, if_true, reduceCtorEq, Nat.reduceAdd, List.map_cons, List.map_nil, Nat.reduceSub, List.replicate_succ, List.replicate_zero, List.cons_append, List.nil_append, ux_add, ux_iadd, ux_sub, ux_mul, ux_div, ux_mod, ux_pow, ux_neg, ux_eqI, ux_neI, ux_eqS, ux_neS, ux_lt, ux_le, ux_gt, ux_ge, ux_abs, ux_max, ux_min, ux_intI, ux_intB, ux_lst, ux_tup, mulOk_iff, true_or, or_true, ux_lenT, ux_lenF, ux_t0, ux_t1, ux_t2, ux_t3, ux_t4, ux_t5, isB, decide_eq_true_eq, Bool.not_eq_true', decide_eq_false_iff_not, i62, true_and, and_true, if_false, Int.reduceLT, Int.reduceLE, Int.reduceAbs, Nat.reduceLT, Nat.reduceLeDiff, Nat.reducePow, Int.reducePow, Int.reduceToNat, Int.reduceNeg, Nat.reduceEqDiff, or_self, not_true, not_false_eq_true, Bool.not_true, Bool.not_false, decide_true, decide_false, Bool.false_eq_true, len_map1, app2, app3, List.append_assoc, List.length_append, Nat.zero_add, Nat.add_zero, get_newc, get_new1, get_new2, get_new3, set_newc, set_new1, set_new2, it_str, it_tup, it_frl, gx_it, gx_isLs, gx_isTx, gx_len, gx_ixI, gx_ixS, gx_getI, gx_getS, ws_storeP, ws_aug2P, gx_stI, gx_stS, gx_app, gx_pop, gx_rev, gx_cat, gx_catT, gx_sl, gx_slT, gx_slF, gx_join, gx_joinT, gx_tup, gx_tupT, gx_tupF, gx_lst, gx_lstT, gx_lstF, gx_all, gx_notInK, Mn.atI_last, Mn.ixN_last, Mn.atI_0, gx_mulL, gx_mulT, ux_isB, ux_notB, ux_isNN, ux_notNN, ux_isSN, ux_notSN, ux_isIN, ux_notIN, ux_isTN, ux_notTN, ux_isRN, ux_notRN, gx_sort, gx_dct, Mn.atI_1, Mn.atI_2, Mn.atI_3, List.length_map, set_lastM, set_lastL, List.getLast?_concat, List.dropLast_concat, gcn_str, gcn_int, gcn_bl, gcn_non, gcs_str, gcs_int, gcs_bl, gcs_non, gcn_tup, gcs_tup, gcn_lst, gcn_lst1, gcn_lst2, refsL_strs, refsL_nil, refsL_s, refsL_i, refsL_n, refsL_b, refsL_t, refsL_app, ux_slS, ux_addS, ux_iaddS, ux_lenS, ux_ixS, ux_inT2, ux_inT3, findK_nil, findK_cons, putKD_nil, putKD_cons, gx_rvL, gx_rvF, gx_rvT, gx_rvS, gx_repl, ws_no, ux_neB, ux_eqB, txsOf_map, ws_forE, keyOf_str, keyOf_int, joinTx_nil, List.foldl_cons, List.foldl_nil, pD, pks, Pk.get, List.drop_zero, List.drop_succ_cons, List.take_succ_cons, List.take_zero])
  refine walk_right_then (r := (v, s, vf)) (o := (ov, 2, of)) (n := k) ⟨⟨v1, v2⟩, ⟨s1, s2⟩, hvf⟩ ⟨⟨by show (-9999 : Int) ≤ ov; omega, by show ov ≤ (9999 : Int); omega⟩, ⟨by show (-9999 : Int) ≤ 2; omega, by show (2 : Int) ≤ 9999; omega⟩, hof⟩ (by omega) ?_
  ((try dsimp only); try simp -implicitDefEqProofs only [ws_seq, ws_set, ws_par2, ws_exp, ws_ret, ws_if, ws_tg, ws_nil, ws_aug, thenR_nx, thenR_ret, thenR_bk, thenR_ct, wp_var, wp_con, wp_bin, wp_un, wp_nil, wp_cons, wp_fn, wp_test, wp_and, wp_or, wp_not, wq_andV, wq_orV, bIf_bl, ite_both, ux_mulST, wp_notV, wp_if, wq_chain, wp_call, wp_sl, wp_nopart, wp_part, wp_bm, wp_iter, wp_rng1, wp_rng2, wp_lc, wp_bind, wp_ok, wp_up, Tg.set, setsD, List.getElem?_cons_zero, List.getElem?_cons_succ, List.set_cons_zero, List.set_cons_succ, List.length_cons, List.length_nil, and_self, if_true, reduceCtorEq, Nat.reduceAdd, List.map_cons, List.map_nil, Nat.reduceSub, List.replicate_succ, List.replicate_zero, List.cons_append, List.nil_append, ux_add, ux_iadd, ux_sub, ux_mul, ux_div, ux_mod, ux_pow, ux_neg, ux_eqI, ux_neI, ux_eqS, ux_neS, ux_lt, ux_le, ux_gt, ux_ge, ux_abs, ux_max, ux_min, ux_intI, ux_intB, ux_lst, ux_tup, mulOk_iff, true_or, or_true, ux_lenT, ux_lenF, ux_t0, ux_t1, ux_t2, ux_t3, ux_t4, ux_t5, isB, decide_eq_true_eq, Bool.not_eq_true', decide_eq_false_iff_not, i62, true_and, and_true, if_false, Int.reduceLT, Int.reduceLE, Int.reduceAbs, Nat.reduceLT, Nat.reduceLeDiff, Nat.reducePow, Int.reducePow, Int.reduceToNat, Int.reduceNeg, Nat.reduceEqDiff, or_self, not_true, not_false_eq_true, Bool.not_true, Bool.not_false, decide_true, decide_false, Bool.false_eq_true, len_map1, app2, app3, List.append_assoc, List.length_append, Nat.zero_add, Nat.add_zero, get_newc, get_new1, get_new2, get_new3, set_newc, set_new1, set_new2, it_str, it_tup, it_frl, gx_it, gx_isLs, gx_isTx, gx_len, gx_ixI, gx_ixS, gx_getI, gx_getS, ws_storeP, ws_aug2P, gx_stI, gx_stS, gx_app, gx_pop, gx_rev, gx_cat, gx_catT, gx_sl, gx_slT, gx_slF, gx_join, gx_joinT, gx_tup, gx_tupT, gx_tupF, gx_lst, gx_lstT, gx_lstF, gx_all, gx_notInK, Mn.atI_last, Mn.ixN_last, Mn.atI_0, gx_mulL, gx_mulT, ux_isB, ux_notB, ux_isNN, ux_notNN, ux_isSN, ux_notSN, ux_isIN, ux_notIN, ux_isTN, ux_notTN, ux_isRN, ux_notRN, gx_sort, gx_dct, Mn.atI_1, Mn.atI_2, Mn.atI_3, List.length_map, set_lastM, set_lastL, List.getLast?_concat, List.dropLast_concat, gcn_str, gcn_int, gcn_bl, gcn_non, gcs_str, gcs_int, gcs_bl, gcs_non, gcn_tup, gcs_tup, gcn_lst, gcn_lst1, gcn_lst2, refsL_strs, refsL_nil, refsL_s, refsL_i, refsL_n, refsL_b, refsL_t, refsL_app, ux_slS, ux_addS, ux_iaddS, ux_lenS, ux_ixS, ux_inT2, ux_inT3, findK_nil, findK_cons, putKD_nil, putKD_cons, gx_rvL, gx_rvF, gx_rvT, gx_rvS, gx_repl, ws_no, ux_neB, ux_eqB, txsOf_map, ws_forE, keyOf_str, keyOf_int, joinTx_nil, List.foldl_cons, List.foldl_nil])
  exact q _ _ _ _ (p3.le (by omega)) hFA
theorem none_put : (putF [] [] [60, 92, 82, 40, 110, 111, 110, 101, 41, 62] []).1 = [60, 48, 62] := by
  have e : told [] [] 82 [110, 111, 110, 101] [] = (some [48], []) := by
    show toldR [110, 111, 110, 101] [] = _
    decide +kernel
  have := put_ask (T := told [] []) (inn := [110, 111, 110, 101]) (y := [62]) (.inl rfl) (by decide) e
  unfold putF
  rw [put_char (by decide), show ([92, 82, 40, 110, 111, 110, 101, 41, 62] : Mn.Tx) = 92 :: 82 :: 40 :: ([110, 111, 110, 101] ++ 41 :: [62]) from rfl, this, put_char (by decide)]
  rfl
theorem plus_put : (putF [] [] [92, 82, 40, 43, 110, 111, 110, 101, 41] []).1 = [48] := by
  have e : told [] [] 82 [43, 110, 111, 110, 101] [] = (some [48], [([110, 111, 110, 101], (0, 0, [49]))]) := by
    show toldR [43, 110, 111, 110, 101] [] = _
    decide +kernel
  have := put_ask (T := told [] []) (inn := [43, 110, 111, 110, 101]) (y := []) (.inl rfl) (by decide) e
  unfold putF
  rw [show ([92, 82, 40, 43, 110, 111, 110, 101, 41] : Mn.Tx) = 92 :: 82 :: 40 :: ([43, 110, 111, 110, 101] ++ 41 :: []) from rfl, this]
  rfl
theorem law_true (ns : List Int) (hn : ns.length ≤ 63) : ∃ m', f_law [.frl (ns.map D.int)] [] = .ok (.bl true) m' := by
  have q : wp (f_law [.frl (ns.map D.int)] []) fun d _ => d = .bl true := by
    apply wp_fnD
    unfold b_law
    ((try dsimp only); try simp -implicitDefEqProofs only [ws_seq, ws_set, ws_par2, ws_exp, ws_ret, ws_if, ws_tg, ws_nil, ws_aug, thenR_nx, thenR_ret, thenR_bk, thenR_ct, wp_var, wp_con, wp_bin, wp_un, wp_nil, wp_cons, wp_fn, wp_test, wp_and, wp_or, wp_not, wq_andV, wq_orV, bIf_bl, ite_both, ux_mulST, wp_notV, wp_if, wq_chain, wp_call, wp_sl, wp_nopart, wp_part, wp_bm, wp_iter, wp_rng1, wp_rng2, wp_lc, wp_bind, wp_ok, wp_up, Tg.set, setsD, List.getElem?_cons_zero, List.getElem?_cons_succ, List.set_cons_zero, List.set_cons_succ, List.length_cons, List.length_nil, and_self, if_true, reduceCtorEq, Nat.reduceAdd, List.map_cons, List.map_nil, Nat.reduceSub, List.replicate_succ, List.replicate_zero, List.cons_append, List.nil_append, ux_add, ux_iadd, ux_sub, ux_mul, ux_div, ux_mod, ux_pow, ux_neg, ux_eqI, ux_neI, ux_eqS, ux_neS, ux_lt, ux_le, ux_gt, ux_ge, ux_abs, ux_max, ux_min, ux_intI, ux_intB, ux_lst, ux_tup, mulOk_iff, true_or, or_true, ux_lenT, ux_lenF, ux_t0, ux_t1, ux_t2, ux_t3, ux_t4, ux_t5, isB, decide_eq_true_eq, Bool.not_eq_true', decide_eq_false_iff_not, i62, true_and, and_true, if_false, Int.reduceLT, Int.reduceLE, Int.reduceAbs, Nat.reduceLT, Nat.reduceLeDiff, Nat.reducePow, Int.reducePow, Int.reduceToNat, Int.reduceNeg, Nat.reduceEqDiff, or_self, not_true, not_false_eq_true, Bool.not_true, Bool.not_false, decide_true, decide_false, Bool.false_eq_true, len_map1, app2, app3, List.append_assoc, List.length_append, Nat.zero_add, Nat.add_zero, get_newc, get_new1, get_new2, get_new3, set_newc, set_new1, set_new2, it_str, it_tup, it_frl, gx_it, gx_isLs, gx_isTx, gx_len, gx_ixI, gx_ixS, gx_getI, gx_getS, ws_storeP, ws_aug2P, gx_stI, gx_stS, gx_app, gx_pop, gx_rev, gx_cat, gx_catT, gx_sl, gx_slT, gx_slF, gx_join, gx_joinT, gx_tup, gx_tupT, gx_tupF, gx_lst, gx_lstT, gx_lstF, gx_all, gx_notInK, Mn.atI_last, Mn.ixN_last, Mn.atI_0, gx_mulL, gx_mulT, ux_isB, ux_notB, ux_isNN, ux_notNN, ux_isSN, ux_notSN, ux_isIN, ux_notIN, ux_isTN, ux_notTN, ux_isRN, ux_notRN, gx_sort, gx_dct, Mn.atI_1, Mn.atI_2, Mn.atI_3, List.length_map, set_lastM, set_lastL, List.getLast?_concat, List.dropLast_concat, gcn_str, gcn_int, gcn_bl, gcn_non, gcs_str, gcs_int, gcs_bl, gcs_non, gcn_tup, gcs_tup, gcn_lst, gcn_lst1, gcn_lst2, refsL_strs, refsL_nil, refsL_s, refsL_i, refsL_n, refsL_b, refsL_t, refsL_app, ux_slS, ux_addS, ux_iaddS, ux_lenS, ux_ixS, ux_inT2, ux_inT3, findK_nil, findK_cons, putKD_nil, putKD_cons, gx_rvL, gx_rvF, gx_rvT, gx_rvS, gx_repl, ws_no, ux_neB, ux_eqB, txsOf_map, ws_forE, keyOf_str, keyOf_int, joinTx_nil, List.foldl_cons, List.foldl_nil, pD, pks, Pk.get, List.drop_zero, List.drop_succ_cons, List.take_succ_cons, List.take_zero])
    refine pen_then fun m0 h0 l0 => ?_
    ((try dsimp only); try simp -implicitDefEqProofs only [ws_seq, ws_set, ws_par2, ws_exp, ws_ret, ws_if, ws_tg, ws_nil, ws_aug, thenR_nx, thenR_ret, thenR_bk, thenR_ct, wp_var, wp_con, wp_bin, wp_un, wp_nil, wp_cons, wp_fn, wp_test, wp_and, wp_or, wp_not, wq_andV, wq_orV, bIf_bl, ite_both, ux_mulST, wp_notV, wp_if, wq_chain, wp_call, wp_sl, wp_nopart, wp_part, wp_bm, wp_iter, wp_rng1, wp_rng2, wp_lc, wp_bind, wp_ok, wp_up, Tg.set, setsD, List.getElem?_cons_zero, List.getElem?_cons_succ, List.set_cons_zero, List.set_cons_succ, List.length_cons, List.length_nil, and_self, if_true, reduceCtorEq, Nat.reduceAdd, List.map_cons, List.map_nil, Nat.reduceSub, List.replicate_succ, List.replicate_zero, List.cons_append, List.nil_append, ux_add, ux_iadd, ux_sub, ux_mul, ux_div, ux_mod, ux_pow, ux_neg, ux_eqI, ux_neI, ux_eqS, ux_neS, ux_lt, ux_le, ux_gt, ux_ge, ux_abs, ux_max, ux_min, ux_intI, ux_intB, ux_lst, ux_tup, mulOk_iff, true_or, or_true, ux_lenT, ux_lenF, ux_t0, ux_t1, ux_t2, ux_t3, ux_t4, ux_t5, isB, decide_eq_true_eq, Bool.not_eq_true', decide_eq_false_iff_not, i62, true_and, and_true, if_false, Int.reduceLT, Int.reduceLE, Int.reduceAbs, Nat.reduceLT, Nat.reduceLeDiff, Nat.reducePow, Int.reducePow, Int.reduceToNat, Int.reduceNeg, Nat.reduceEqDiff, or_self, not_true, not_false_eq_true, Bool.not_true, Bool.not_false, decide_true, decide_false, Bool.false_eq_true, len_map1, app2, app3, List.append_assoc, List.length_append, Nat.zero_add, Nat.add_zero, get_newc, get_new1, get_new2, get_new3, set_newc, set_new1, set_new2, it_str, it_tup, it_frl, gx_it, gx_isLs, gx_isTx, gx_len, gx_ixI, gx_ixS, gx_getI, gx_getS, ws_storeP, ws_aug2P, gx_stI, gx_stS, gx_app, gx_pop, gx_rev, gx_cat, gx_catT, gx_sl, gx_slT, gx_slF, gx_join, gx_joinT, gx_tup, gx_tupT, gx_tupF, gx_lst, gx_lstT, gx_lstF, gx_all, gx_notInK, Mn.atI_last, Mn.ixN_last, Mn.atI_0, gx_mulL, gx_mulT, ux_isB, ux_notB, ux_isNN, ux_notNN, ux_isSN, ux_notSN, ux_isIN, ux_notIN, ux_isTN, ux_notTN, ux_isRN, ux_notRN, gx_sort, gx_dct, Mn.atI_1, Mn.atI_2, Mn.atI_3, List.length_map, set_lastM, set_lastL, List.getLast?_concat, List.dropLast_concat, gcn_str, gcn_int, gcn_bl, gcn_non, gcs_str, gcs_int, gcs_bl, gcs_non, gcn_tup, gcs_tup, gcn_lst, gcn_lst1, gcn_lst2, refsL_strs, refsL_nil, refsL_s, refsL_i, refsL_n, refsL_b, refsL_t, refsL_app, ux_slS, ux_addS, ux_iaddS, ux_lenS, ux_ixS, ux_inT2, ux_inT3, findK_nil, findK_cons, putKD_nil, putKD_cons, gx_rvL, gx_rvF, gx_rvT, gx_rvS, gx_repl, ws_no, ux_neB, ux_eqB, txsOf_map, ws_forE, keyOf_str, keyOf_int, joinTx_nil, List.foldl_cons, List.foldl_nil])
    unfold r11_law
    ((try dsimp only); try simp -implicitDefEqProofs only [ws_seq, ws_set, ws_par2, ws_exp, ws_ret, ws_if, ws_tg, ws_nil, ws_aug, thenR_nx, thenR_ret, thenR_bk, thenR_ct, wp_var, wp_con, wp_bin, wp_un, wp_nil, wp_cons, wp_fn, wp_test, wp_and, wp_or, wp_not, wq_andV, wq_orV, bIf_bl, ite_both, ux_mulST, wp_notV, wp_if, wq_chain, wp_call, wp_sl, wp_nopart, wp_part, wp_bm, wp_iter, wp_rng1, wp_rng2, wp_lc, wp_bind, wp_ok, wp_up, Tg.set, setsD, List.getElem?_cons_zero, List.getElem?_cons_succ, List.set_cons_zero, List.set_cons_succ, List.length_cons, List.length_nil, and_self, if_true, reduceCtorEq, Nat.reduceAdd, List.map_cons, List.map_nil, Nat.reduceSub, List.replicate_succ, List.replicate_zero, List.cons_append, List.nil_append, ux_add, ux_iadd, ux_sub, ux_mul, ux_div, ux_mod, ux_pow, ux_neg, ux_eqI, ux_neI, ux_eqS, ux_neS, ux_lt, ux_le, ux_gt, ux_ge, ux_abs, ux_max, ux_min, ux_intI, ux_intB, ux_lst, ux_tup, mulOk_iff, true_or, or_true, ux_lenT, ux_lenF, ux_t0, ux_t1, ux_t2, ux_t3, ux_t4, ux_t5, isB, decide_eq_true_eq, Bool.not_eq_true', decide_eq_false_iff_not, i62, true_and, and_true, if_false, Int.reduceLT, Int.reduceLE, Int.reduceAbs, Nat.reduceLT, Nat.reduceLeDiff, Nat.reducePow, Int.reducePow, Int.reduceToNat, Int.reduceNeg, Nat.reduceEqDiff, or_self, not_true, not_false_eq_true, Bool.not_true, Bool.not_false, decide_true, decide_false, Bool.false_eq_true, len_map1, app2, app3, List.append_assoc, List.length_append, Nat.zero_add, Nat.add_zero, get_newc, get_new1, get_new2, get_new3, set_newc, set_new1, set_new2, it_str, it_tup, it_frl, gx_it, gx_isLs, gx_isTx, gx_len, gx_ixI, gx_ixS, gx_getI, gx_getS, ws_storeP, ws_aug2P, gx_stI, gx_stS, gx_app, gx_pop, gx_rev, gx_cat, gx_catT, gx_sl, gx_slT, gx_slF, gx_join, gx_joinT, gx_tup, gx_tupT, gx_tupF, gx_lst, gx_lstT, gx_lstF, gx_all, gx_notInK, Mn.atI_last, Mn.ixN_last, Mn.atI_0, gx_mulL, gx_mulT, ux_isB, ux_notB, ux_isNN, ux_notNN, ux_isSN, ux_notSN, ux_isIN, ux_notIN, ux_isTN, ux_notTN, ux_isRN, ux_notRN, gx_sort, gx_dct, Mn.atI_1, Mn.atI_2, Mn.atI_3, List.length_map, set_lastM, set_lastL, List.getLast?_concat, List.dropLast_concat, gcn_str, gcn_int, gcn_bl, gcn_non, gcs_str, gcs_int, gcs_bl, gcs_non, gcn_tup, gcs_tup, gcn_lst, gcn_lst1, gcn_lst2, refsL_strs, refsL_nil, refsL_s, refsL_i, refsL_n, refsL_b, refsL_t, refsL_app, ux_slS, ux_addS, ux_iaddS, ux_lenS, ux_ixS, ux_inT2, ux_inT3, findK_nil, findK_cons, putKD_nil, putKD_cons, gx_rvL, gx_rvF, gx_rvT, gx_rvS, gx_repl, ws_no, ux_neB, ux_eqB, txsOf_map, ws_forE, keyOf_str, keyOf_int, joinTx_nil, List.foldl_cons, List.foldl_nil])
    unfold r10_law
    ((try dsimp only); try simp -implicitDefEqProofs only [ws_seq, ws_set, ws_par2, ws_exp, ws_ret, ws_if, ws_tg, ws_nil, ws_aug, thenR_nx, thenR_ret, thenR_bk, thenR_ct, wp_var, wp_con, wp_bin, wp_un, wp_nil, wp_cons, wp_fn, wp_test, wp_and, wp_or, wp_not, wq_andV, wq_orV, bIf_bl, ite_both, ux_mulST, wp_notV, wp_if, wq_chain, wp_call, wp_sl, wp_nopart, wp_part, wp_bm, wp_iter, wp_rng1, wp_rng2, wp_lc, wp_bind, wp_ok, wp_up, Tg.set, setsD, List.getElem?_cons_zero, List.getElem?_cons_succ, List.set_cons_zero, List.set_cons_succ, List.length_cons, List.length_nil, and_self, if_true, reduceCtorEq, Nat.reduceAdd, List.map_cons, List.map_nil, Nat.reduceSub, List.replicate_succ, List.replicate_zero, List.cons_append, List.nil_append, ux_add, ux_iadd, ux_sub, ux_mul, ux_div, ux_mod, ux_pow, ux_neg, ux_eqI, ux_neI, ux_eqS, ux_neS, ux_lt, ux_le, ux_gt, ux_ge, ux_abs, ux_max, ux_min, ux_intI, ux_intB, ux_lst, ux_tup, mulOk_iff, true_or, or_true, ux_lenT, ux_lenF, ux_t0, ux_t1, ux_t2, ux_t3, ux_t4, ux_t5, isB, decide_eq_true_eq, Bool.not_eq_true', decide_eq_false_iff_not, i62, true_and, and_true, if_false, Int.reduceLT, Int.reduceLE, Int.reduceAbs, Nat.reduceLT, Nat.reduceLeDiff, Nat.reducePow, Int.reducePow, Int.reduceToNat, Int.reduceNeg, Nat.reduceEqDiff, or_self, not_true, not_false_eq_true, Bool.not_true, Bool.not_false, decide_true, decide_false, Bool.false_eq_true, len_map1, app2, app3, List.append_assoc, List.length_append, Nat.zero_add, Nat.add_zero, get_newc, get_new1, get_new2, get_new3, set_newc, set_new1, set_new2, it_str, it_tup, it_frl, gx_it, gx_isLs, gx_isTx, gx_len, gx_ixI, gx_ixS, gx_getI, gx_getS, ws_storeP, ws_aug2P, gx_stI, gx_stS, gx_app, gx_pop, gx_rev, gx_cat, gx_catT, gx_sl, gx_slT, gx_slF, gx_join, gx_joinT, gx_tup, gx_tupT, gx_tupF, gx_lst, gx_lstT, gx_lstF, gx_all, gx_notInK, Mn.atI_last, Mn.ixN_last, Mn.atI_0, gx_mulL, gx_mulT, ux_isB, ux_notB, ux_isNN, ux_notNN, ux_isSN, ux_notSN, ux_isIN, ux_notIN, ux_isTN, ux_notTN, ux_isRN, ux_notRN, gx_sort, gx_dct, Mn.atI_1, Mn.atI_2, Mn.atI_3, List.length_map, set_lastM, set_lastL, List.getLast?_concat, List.dropLast_concat, gcn_str, gcn_int, gcn_bl, gcn_non, gcs_str, gcs_int, gcs_bl, gcs_non, gcn_tup, gcs_tup, gcn_lst, gcn_lst1, gcn_lst2, refsL_strs, refsL_nil, refsL_s, refsL_i, refsL_n, refsL_b, refsL_t, refsL_app, ux_slS, ux_addS, ux_iaddS, ux_lenS, ux_ixS, ux_inT2, ux_inT3, findK_nil, findK_cons, putKD_nil, putKD_cons, gx_rvL, gx_rvF, gx_rvT, gx_rvS, gx_repl, ws_no, ux_neB, ux_eqB, txsOf_map, ws_forE, keyOf_str, keyOf_int, joinTx_nil, List.foldl_cons, List.foldl_nil])
    refine ws_lst (a := m0.length) (xs := formsD) (by simp [formsD]) (fun i f m => i ≤ 4 ∧ ∃ v0 v3 v4 v5 v6 v7 v8 v9, f = [v0, some (.ref 0), some (.ref m0.length), v3, v4, v5, v6, v7, v8, v9] ∧ PenL m 0 (900000 - i) ∧ m[m0.length]? = some (.lst formsD)) ⟨by omega, _, _, _, _, _, _, _, _, rfl, h0.app.le (by omega), get_new⟩ ?_ ?_ ?_
    · rintro i f m ⟨_, v0, v3, v4, v5, v6, v7, v8, v9, rfl, h1, h2⟩
      exact h2
    · rintro i d f m hd ⟨i4, v0, v3, v4, v5, v6, v7, v8, v9, rfl, h1, h2⟩
      have il := (List.getElem?_eq_some_iff.mp hd).1
      have il : i < 4 := il
      obtain ⟨fm, rfl, hf⟩ := forms_ok (List.mem_of_getElem? hd)
      refine ⟨_, rfl, ?_⟩
      refine form_lap (b := 900000 - (i + 1)) (h1.le (by omega)) h2 (by omega) hf fun m' v5 v8 v9 q1 q2 => ?_
      exact ⟨by omega, _, _, _, _, _, _, _, _, rfl, q1, q2⟩
    · rintro f m ⟨_, v0, v3, v4, v5, v6, v7, v8, v9, rfl, h1, h2⟩
      have h1 : PenL m 0 800000 := h1.le (by show 800000 ≤ 900000 - 4; omega)
      unfold r6_law
      ((try dsimp only); try simp -implicitDefEqProofs only [ws_seq, ws_set, ws_par2, ws_exp, ws_ret, ws_if, ws_tg, ws_nil, ws_aug, thenR_nx, thenR_ret, thenR_bk, thenR_ct, wp_var, wp_con, wp_bin, wp_un, wp_nil, wp_cons, wp_fn, wp_test, wp_and, wp_or, wp_not, wq_andV, wq_orV, bIf_bl, ite_both, ux_mulST, wp_notV, wp_if, wq_chain, wp_call, wp_sl, wp_nopart, wp_part, wp_bm, wp_iter, wp_rng1, wp_rng2, wp_lc, wp_bind, wp_ok, wp_up, Tg.set, setsD, List.getElem?_cons_zero, List.getElem?_cons_succ, List.set_cons_zero, List.set_cons_succ, List.length_cons, List.length_nil, and_self, if_true, reduceCtorEq, Nat.reduceAdd, List.map_cons, List.map_nil, Nat.reduceSub, List.replicate_succ, List.replicate_zero, List.cons_append, List.nil_append, ux_add, ux_iadd, ux_sub, ux_mul, ux_div, ux_mod, ux_pow, ux_neg, ux_eqI, ux_neI, ux_eqS, ux_neS, ux_lt, ux_le, ux_gt, ux_ge, ux_abs, ux_max, ux_min, ux_intI, ux_intB, ux_lst, ux_tup, mulOk_iff, true_or, or_true, ux_lenT, ux_lenF, ux_t0, ux_t1, ux_t2, ux_t3, ux_t4, ux_t5, isB, decide_eq_true_eq, Bool.not_eq_true', decide_eq_false_iff_not, i62, true_and, and_true, if_false, Int.reduceLT, Int.reduceLE, Int.reduceAbs, Nat.reduceLT, Nat.reduceLeDiff, Nat.reducePow, Int.reducePow, Int.reduceToNat, Int.reduceNeg, Nat.reduceEqDiff, or_self, not_true, not_false_eq_true, Bool.not_true, Bool.not_false, decide_true, decide_false, Bool.false_eq_true, len_map1, app2, app3, List.append_assoc, List.length_append, Nat.zero_add, Nat.add_zero, get_newc, get_new1, get_new2, get_new3, set_newc, set_new1, set_new2, it_str, it_tup, it_frl, gx_it, gx_isLs, gx_isTx, gx_len, gx_ixI, gx_ixS, gx_getI, gx_getS, ws_storeP, ws_aug2P, gx_stI, gx_stS, gx_app, gx_pop, gx_rev, gx_cat, gx_catT, gx_sl, gx_slT, gx_slF, gx_join, gx_joinT, gx_tup, gx_tupT, gx_tupF, gx_lst, gx_lstT, gx_lstF, gx_all, gx_notInK, Mn.atI_last, Mn.ixN_last, Mn.atI_0, gx_mulL, gx_mulT, ux_isB, ux_notB, ux_isNN, ux_notNN, ux_isSN, ux_notSN, ux_isIN, ux_notIN, ux_isTN, ux_notTN, ux_isRN, ux_notRN, gx_sort, gx_dct, Mn.atI_1, Mn.atI_2, Mn.atI_3, List.length_map, set_lastM, set_lastL, List.getLast?_concat, List.dropLast_concat, gcn_str, gcn_int, gcn_bl, gcn_non, gcs_str, gcs_int, gcs_bl, gcs_non, gcn_tup, gcs_tup, gcn_lst, gcn_lst1, gcn_lst2, refsL_strs, refsL_nil, refsL_s, refsL_i, refsL_n, refsL_b, refsL_t, refsL_app, ux_slS, ux_addS, ux_iaddS, ux_lenS, ux_ixS, ux_inT2, ux_inT3, findK_nil, findK_cons, putKD_nil, putKD_cons, gx_rvL, gx_rvF, gx_rvT, gx_rvS, gx_repl, ws_no, ux_neB, ux_eqB, txsOf_map, ws_forE, keyOf_str, keyOf_int, joinTx_nil, List.foldl_cons, List.foldl_nil])
      refine ⟨8, rfl, by omega, ?_⟩
      refine ws_range (by decide) (fun i f m => ∃ v0 v3 v4 v5 v6 v7 v8 v9, f = [v0, some (.ref 0), some (.ref m0.length), v3, v4, v5, v6, v7, v8, v9] ∧ PenL m 0 (800000 - 20 * i) ∧ m[m0.length]? = some (.lst formsD)) ⟨_, _, _, _, _, _, _, _, rfl, h1, h2⟩ ?_ ?_
      · rintro i f m hi0 ⟨v0, v3, v4, v5, v6, v7, v8, v9, rfl, h1, h2⟩
        refine ⟨_, rfl, ?_⟩
        have hi : i < 8 := hi0
        refine draw_lap (b := 800000 - 20 * (i + 1)) (h1.le (by omega)) h2 (by omega) fun m' v5 v6 v7 q1 q2 => ?_
        exact ⟨_, _, _, _, _, _, _, _, rfl, q1, q2⟩
      · rintro f m ⟨v0, v3, v4, v5, v6, v7, v8, v9, rfl, h1, h2⟩
        have okN : RegsOk [] := ⟨by unfold NoTwice; decide, fun p hp => nomatch hp⟩
        unfold r1_law
        ((try dsimp only); try simp -implicitDefEqProofs only [ws_seq, ws_set, ws_par2, ws_exp, ws_ret, ws_if, ws_tg, ws_nil, ws_aug, thenR_nx, thenR_ret, thenR_bk, thenR_ct, wp_var, wp_con, wp_bin, wp_un, wp_nil, wp_cons, wp_fn, wp_test, wp_and, wp_or, wp_not, wq_andV, wq_orV, bIf_bl, ite_both, ux_mulST, wp_notV, wp_if, wq_chain, wp_call, wp_sl, wp_nopart, wp_part, wp_bm, wp_iter, wp_rng1, wp_rng2, wp_lc, wp_bind, wp_ok, wp_up, Tg.set, setsD, List.getElem?_cons_zero, List.getElem?_cons_succ, List.set_cons_zero, List.set_cons_succ, List.length_cons, List.length_nil, and_self, if_true, reduceCtorEq, Nat.reduceAdd, List.map_cons, List.map_nil, Nat.reduceSub, List.replicate_succ, List.replicate_zero, List.cons_append, List.nil_append, ux_add, ux_iadd, ux_sub, ux_mul, ux_div, ux_mod, ux_pow, ux_neg, ux_eqI, ux_neI, ux_eqS, ux_neS, ux_lt, ux_le, ux_gt, ux_ge, ux_abs, ux_max, ux_min, ux_intI, ux_intB, ux_lst, ux_tup, mulOk_iff, true_or, or_true, ux_lenT, ux_lenF, ux_t0, ux_t1, ux_t2, ux_t3, ux_t4, ux_t5, isB, decide_eq_true_eq, Bool.not_eq_true', decide_eq_false_iff_not, i62, true_and, and_true, if_false, Int.reduceLT, Int.reduceLE, Int.reduceAbs, Nat.reduceLT, Nat.reduceLeDiff, Nat.reducePow, Int.reducePow, Int.reduceToNat, Int.reduceNeg, Nat.reduceEqDiff, or_self, not_true, not_false_eq_true, Bool.not_true, Bool.not_false, decide_true, decide_false, Bool.false_eq_true, len_map1, app2, app3, List.append_assoc, List.length_append, Nat.zero_add, Nat.add_zero, get_newc, get_new1, get_new2, get_new3, set_newc, set_new1, set_new2, it_str, it_tup, it_frl, gx_it, gx_isLs, gx_isTx, gx_len, gx_ixI, gx_ixS, gx_getI, gx_getS, ws_storeP, ws_aug2P, gx_stI, gx_stS, gx_app, gx_pop, gx_rev, gx_cat, gx_catT, gx_sl, gx_slT, gx_slF, gx_join, gx_joinT, gx_tup, gx_tupT, gx_tupF, gx_lst, gx_lstT, gx_lstF, gx_all, gx_notInK, Mn.atI_last, Mn.ixN_last, Mn.atI_0, gx_mulL, gx_mulT, ux_isB, ux_notB, ux_isNN, ux_notNN, ux_isSN, ux_notSN, ux_isIN, ux_notIN, ux_isTN, ux_notTN, ux_isRN, ux_notRN, gx_sort, gx_dct, Mn.atI_1, Mn.atI_2, Mn.atI_3, List.length_map, set_lastM, set_lastL, List.getLast?_concat, List.dropLast_concat, gcn_str, gcn_int, gcn_bl, gcn_non, gcs_str, gcs_int, gcs_bl, gcs_non, gcn_tup, gcs_tup, gcn_lst, gcn_lst1, gcn_lst2, refsL_strs, refsL_nil, refsL_s, refsL_i, refsL_n, refsL_b, refsL_t, refsL_app, ux_slS, ux_addS, ux_iaddS, ux_lenS, ux_ixS, ux_inT2, ux_inT3, findK_nil, findK_cons, putKD_nil, putKD_cons, gx_rvL, gx_rvF, gx_rvT, gx_rvS, gx_repl, ws_no, ux_neB, ux_eqB, txsOf_map, ws_forE, keyOf_str, keyOf_int, joinTx_nil, List.foldl_cons, List.foldl_nil, pD, pks, Pk.get, List.drop_zero, List.drop_succ_cons, List.take_succ_cons, List.take_zero, wx_dict0])
        refine put_in_then (R := []) (S := []) (A := []) get_newc get_new1 okN (show 0 ≤ 1000 by decide) K0 (by decide) ?_
        rw [none_put]
        ((try dsimp only); try simp -implicitDefEqProofs only [ws_seq, ws_set, ws_par2, ws_exp, ws_ret, ws_if, ws_tg, ws_nil, ws_aug, thenR_nx, thenR_ret, thenR_bk, thenR_ct, wp_var, wp_con, wp_bin, wp_un, wp_nil, wp_cons, wp_fn, wp_test, wp_and, wp_or, wp_not, wq_andV, wq_orV, bIf_bl, ite_both, ux_mulST, wp_notV, wp_if, wq_chain, wp_call, wp_sl, wp_nopart, wp_part, wp_bm, wp_iter, wp_rng1, wp_rng2, wp_lc, wp_bind, wp_ok, wp_up, Tg.set, setsD, List.getElem?_cons_zero, List.getElem?_cons_succ, List.set_cons_zero, List.set_cons_succ, List.length_cons, List.length_nil, and_self, if_true, reduceCtorEq, Nat.reduceAdd, List.map_cons, List.map_nil, Nat.reduceSub, List.replicate_succ, List.replicate_zero, List.cons_append, List.nil_append, ux_add, ux_iadd, ux_sub, ux_mul, ux_div, ux_mod, ux_pow, ux_neg, ux_eqI, ux_neI, ux_eqS, ux_neS, ux_lt, ux_le, ux_gt, ux_ge, ux_abs, ux_max, ux_min, ux_intI, ux_intB, ux_lst, ux_tup, mulOk_iff, true_or, or_true, ux_lenT, ux_lenF, ux_t0, ux_t1, ux_t2, ux_t3, ux_t4, ux_t5, isB, decide_eq_true_eq, Bool.not_eq_true', decide_eq_false_iff_not, i62, true_and, and_true, if_false, Int.reduceLT, Int.reduceLE, Int.reduceAbs, Nat.reduceLT, Nat.reduceLeDiff, Nat.reducePow, Int.reducePow, Int.reduceToNat, Int.reduceNeg, Nat.reduceEqDiff, or_self, not_true, not_false_eq_true, Bool.not_true, Bool.not_false, decide_true, decide_false, Bool.false_eq_true, len_map1, app2, app3, List.append_assoc, List.length_append, Nat.zero_add, Nat.add_zero, get_newc, get_new1, get_new2, get_new3, set_newc, set_new1, set_new2, it_str, it_tup, it_frl, gx_it, gx_isLs, gx_isTx, gx_len, gx_ixI, gx_ixS, gx_getI, gx_getS, ws_storeP, ws_aug2P, gx_stI, gx_stS, gx_app, gx_pop, gx_rev, gx_cat, gx_catT, gx_sl, gx_slT, gx_slF, gx_join, gx_joinT, gx_tup, gx_tupT, gx_tupF, gx_lst, gx_lstT, gx_lstF, gx_all, gx_notInK, Mn.atI_last, Mn.ixN_last, Mn.atI_0, gx_mulL, gx_mulT, ux_isB, ux_notB, ux_isNN, ux_notNN, ux_isSN, ux_notSN, ux_isIN, ux_notIN, ux_isTN, ux_notTN, ux_isRN, ux_notRN, gx_sort, gx_dct, Mn.atI_1, Mn.atI_2, Mn.atI_3, List.length_map, set_lastM, set_lastL, List.getLast?_concat, List.dropLast_concat, gcn_str, gcn_int, gcn_bl, gcn_non, gcs_str, gcs_int, gcs_bl, gcs_non, gcn_tup, gcs_tup, gcn_lst, gcn_lst1, gcn_lst2, refsL_strs, refsL_nil, refsL_s, refsL_i, refsL_n, refsL_b, refsL_t, refsL_app, ux_slS, ux_addS, ux_iaddS, ux_lenS, ux_ixS, ux_inT2, ux_inT3, findK_nil, findK_cons, putKD_nil, putKD_cons, gx_rvL, gx_rvF, gx_rvT, gx_rvS, gx_repl, ws_no, ux_neB, ux_eqB, txsOf_map, ws_forE, keyOf_str, keyOf_int, joinTx_nil, List.foldl_cons, List.foldl_nil, wx_dict0])
        refine put_in_then (R := []) (S := []) (A := []) (get_newK 3) (get_newK 4) okN (show 0 ≤ 1000 by decide) K0 (by decide) ?_
        rw [plus_put]
        ((try dsimp only); try simp -implicitDefEqProofs only [ws_seq, ws_set, ws_par2, ws_exp, ws_ret, ws_if, ws_tg, ws_nil, ws_aug, thenR_nx, thenR_ret, thenR_bk, thenR_ct, wp_var, wp_con, wp_bin, wp_un, wp_nil, wp_cons, wp_fn, wp_test, wp_and, wp_or, wp_not, wq_andV, wq_orV, bIf_bl, ite_both, ux_mulST, wp_notV, wp_if, wq_chain, wp_call, wp_sl, wp_nopart, wp_part, wp_bm, wp_iter, wp_rng1, wp_rng2, wp_lc, wp_bind, wp_ok, wp_up, Tg.set, setsD, List.getElem?_cons_zero, List.getElem?_cons_succ, List.set_cons_zero, List.set_cons_succ, List.length_cons, List.length_nil, and_self, if_true, reduceCtorEq, Nat.reduceAdd, List.map_cons, List.map_nil, Nat.reduceSub, List.replicate_succ, List.replicate_zero, List.cons_append, List.nil_append, ux_add, ux_iadd, ux_sub, ux_mul, ux_div, ux_mod, ux_pow, ux_neg, ux_eqI, ux_neI, ux_eqS, ux_neS, ux_lt, ux_le, ux_gt, ux_ge, ux_abs, ux_max, ux_min, ux_intI, ux_intB, ux_lst, ux_tup, mulOk_iff, true_or, or_true, ux_lenT, ux_lenF, ux_t0, ux_t1, ux_t2, ux_t3, ux_t4, ux_t5, isB, decide_eq_true_eq, Bool.not_eq_true', decide_eq_false_iff_not, i62, true_and, and_true, if_false, Int.reduceLT, Int.reduceLE, Int.reduceAbs, Nat.reduceLT, Nat.reduceLeDiff, Nat.reducePow, Int.reducePow, Int.reduceToNat, Int.reduceNeg, Nat.reduceEqDiff, or_self, not_true, not_false_eq_true, Bool.not_true, Bool.not_false, decide_true, decide_false, Bool.false_eq_true, len_map1, app2, app3, List.append_assoc, List.length_append, Nat.zero_add, Nat.add_zero, get_newc, get_new1, get_new2, get_new3, set_newc, set_new1, set_new2, it_str, it_tup, it_frl, gx_it, gx_isLs, gx_isTx, gx_len, gx_ixI, gx_ixS, gx_getI, gx_getS, ws_storeP, ws_aug2P, gx_stI, gx_stS, gx_app, gx_pop, gx_rev, gx_cat, gx_catT, gx_sl, gx_slT, gx_slF, gx_join, gx_joinT, gx_tup, gx_tupT, gx_tupF, gx_lst, gx_lstT, gx_lstF, gx_all, gx_notInK, Mn.atI_last, Mn.ixN_last, Mn.atI_0, gx_mulL, gx_mulT, ux_isB, ux_notB, ux_isNN, ux_notNN, ux_isSN, ux_notSN, ux_isIN, ux_notIN, ux_isTN, ux_notTN, ux_isRN, ux_notRN, gx_sort, gx_dct, Mn.atI_1, Mn.atI_2, Mn.atI_3, List.length_map, set_lastM, set_lastL, List.getLast?_concat, List.dropLast_concat, gcn_str, gcn_int, gcn_bl, gcn_non, gcs_str, gcs_int, gcs_bl, gcs_non, gcn_tup, gcs_tup, gcn_lst, gcn_lst1, gcn_lst2, refsL_strs, refsL_nil, refsL_s, refsL_i, refsL_n, refsL_b, refsL_t, refsL_app, ux_slS, ux_addS, ux_iaddS, ux_lenS, ux_ixS, ux_inT2, ux_inT3, findK_nil, findK_cons, putKD_nil, putKD_cons, gx_rvL, gx_rvF, gx_rvT, gx_rvS, gx_repl, ws_no, ux_neB, ux_eqB, txsOf_map, ws_forE, keyOf_str, keyOf_int, joinTx_nil, List.foldl_cons, List.foldl_nil])
        exact gc_bl
  obtain ⟨d, m', e, rfl⟩ := wp_get q
  exact ⟨m', e⟩
end Lw
end

theorem PySem.Challenge.cw_trapsetter_k16_registers_put_in_holds : PySem.Challenge.rw_trapsetter_k16_registers_put_in.Holds :=
  Lw.holds_of Lw.law_true
