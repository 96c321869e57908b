import PyProof.Rows.All
import Wide.All
import OpenK.AllK
import Wide.FinOn
import KE.KStateDown
import HandS.ForMost
import HandS.ForExc
import HandS.Wide
import HandS.WideBits
import HandS.Defaults
import HandS.IsInst
import HandS.Conv
import HandS.Head0
import HandS.Head1
import HandS.Head2
import HandS.HeadEnd
import HandS.HeadHook1
import HandS.HeadHook2
import HandS.HeadNt
import HandS.Style
import HandS.Iter
import HandS.Deep
import HandS.Property
import HandS.Star
import HandS.ClsMeth
import HandS.More
import HandS.OwnEq
import HandS.NoneIn
import HandS.SetFor
import HandS.Strs
import KE.KOpsOwn
import HandS.Exc
import HandS.ExcInit
import HandS.ExcIs
import HandS.ExcField
import HandS.RaiseMore
import KE.KExcSuper
import PyProof.ReprRoads
import HandS.Flow
import HandS.MakeKwOnly
import HandS.TupAny
import HandS.TupMul
import HandS.FStr
import HandS.Text
import HandS.DictComp
import HandS.ExcValue
import PySem.Challenge.RW_fourtests_k01_errors
set_option Elab.async false
set_option linter.all false
set_option maxRecDepth 100000
set_option maxHeartbeats 4000000
namespace Dl
open PySem L2
/-! ### data: values without the heap -/
inductive D where
  | non | bl (b : Bool) | int (i : Int) | str (x : Str)
  | tup (xs : List D) | lst (xs : List D)
  | scr (ns : List Int)
  | ln (t p o : Int)
  | own (a : Addr)
  | exn (c : Str) (f : D)
  | exn0 (c : Str)
  | dct (ks : List Key) (ds : List D)
  | cls
inductive MO where
  | lst (xs : List D)
  | obj (c : Str) (ds : List D)
  | dct (ks : List Key) (ds : List D)
  | lck (o : Obj) (vs : List V) (ks : List Key) (ds : List D)
abbrev Mem := Addr → Option MO
def mset (M : Mem) (a : Addr) (m : MO) : Mem := fun b => if b = a then some m else M b
def mdel (M : Mem) (a : Addr) : Mem := fun b => if b = a then none else M b
theorem mset_same {M : Mem} {a : Addr} {m : MO} : mset M a m a = some m := by unfold mset; rw [if_pos rfl]
theorem mset_ne {M : Mem} {a b : Addr} {m : MO} (h : b ≠ a) : mset M a m b = M b := by unfold mset; rw [if_neg h]
theorem mset_set {M : Mem} {a : Addr} {m n : MO} : mset (mset M a m) a n = mset M a n := by funext b; unfold mset; split <;> rfl
theorem mdel_set {M : Mem} {a : Addr} {m : MO} (h : M a = none) : mdel (mset M a m) a = M := by
  funext b; unfold mdel mset; split
  · rename_i e; rw [e, h]
  · rfl
theorem mset_comm {M : Mem} {a b : Addr} {m n : MO} (h : a ≠ b) : mset (mset M a m) b n = mset (mset M b n) a m := by
  funext c; unfold mset
  by_cases h1 : c = b
  · subst h1; rw [if_pos rfl, if_neg (Ne.symm h), if_pos rfl]
  · rw [if_neg h1]; by_cases h2 : c = a
    · rw [if_pos h2, if_pos h2]
    · rw [if_neg h2, if_neg h2, if_neg h1]
/-- the written part and the class of lines -/
structure Gx where
  K : PySem.W.Frag
  C : Addr
def KL (K : PySem.W.Frag) (a : Addr) (xs : List V) : Prop :=
  ∃ (o : Obj) (its : Array Value) (n : Nat), K.lookup a = some o ∧ o.cls = .type "list" ∧ o.dict = none ∧ o.data = .seq its n ∧ its.size ≤ sizeLine ∧ Vals xs its.toList
def fLine (q : Addr) : List (Str × V) := [("parts", .ref q)]
/-- at a: an exception of the class at C, caught; its dict -/
def exH (C : Addr) (d : Option Addr) (a : Addr) : HO := .ext fun h => ∃ (oe : Obj) (vs : Array Value), h.get? a = some oe ∧ Zc (.ref C) d oe ∧ oe.data = .fields vs
/-- the field of an exception's class -/
def fldN (c : Str) : Str := if c = "UnknownName" ∨ c = "TakenName" ∨ c = "InvalidName" then "name" else if c = "TooNarrow" then "bits" else if c = "InvalidCode" ∨ c = "Overflow" then "row" else "value"
mutual
def Is (G : Gx) (M : Mem) (H : Hp) : D → V → Prop
  | .non, v => v = .non
  | .bl b, v => v = .bl b
  | .int i, v => v = .int i
  | .str x, v => v = .str x
  | .tup ds, v => ∃ a xs, v = .ref a ∧ M a = none ∧ H a = some (.tup xs) ∧ IsL G M H ds xs
  | .lst ds, v => ∃ a xs, v = .ref a ∧ M a = none ∧ H a = some (.lst xs) ∧ IsL G M H ds xs
  | .scr ns, v => ∃ a, v = .ref a ∧ ((M a = none ∧ ∃ o, H a = some (.frz o (.lst (ns.map V.int)))) ∨ KL G.K a (ns.map V.int))
  | .ln t p o, v => ∃ a dx q, v = .ref a ∧ M a = none ∧ H a = some (.ins G.C dx (fLine q)) ∧ M q = none ∧ H q = some (.tup [.int t, .int p, .int o])
  | .own a, v => v = .ref a ∧ (M a).isSome = true
  | .exn c f, v => ∃ a dd u, v = .ref a ∧ M a = none ∧ H a = some (exH (He.ga G.K c) (some dd) a) ∧ M dd = none ∧ H dd = some (.xd [(fldN c, u)]) ∧ Is G M H f u
  | .exn0 c, v => ∃ a, v = .ref a ∧ M a = none ∧ H a = some (exH (He.ga G.K c) none a)
  | .dct ks ds, v => ∃ a xs, v = .ref a ∧ M a = none ∧ H a = some (.dK (ks.zip xs)) ∧ ks.length = ds.length ∧ IsL G M H ds xs
  | .cls, v => v = .ref G.C
def IsL (G : Gx) (M : Mem) (H : Hp) : List D → List V → Prop
  | [], [] => True
  | d :: ds, x :: xs => Is G M H d x ∧ IsL G M H ds xs
  | _, _ => False
end
mutual
/-- no owned thing within -/
def pureD : D → Bool
  | .tup ds => pureL ds
  | .lst ds => pureL ds
  | .own _ => false
  | .exn _ f => pureD f
  | .dct _ ds => pureL ds
  | _ => true
def pureL : List D → Bool
  | [] => true
  | d :: ds => pureD d && pureL ds
end
/-- a field of an owned object: pure data, or another owned thing -/
def FIs (G : Gx) (M : Mem) (H : Hp) : D → V → Prop
  | .own b, v => v = .ref b
  | d, v => pureD d = true ∧ Is G M H d v
def FIsL (G : Gx) (M : Mem) (H : Hp) : List D → List V → Prop
  | [], [] => True
  | d :: ds, v :: vs => FIs G M H d v ∧ FIsL G M H ds vs
  | _, _ => False
/-- the fields of a class with changing objects, in their order -/
def clsF (c : Str) : List Str := if c = "Writer" then ["given", "rows", "ends", "needed", "fits"] else if c = "Library" then ["kept", "steps"] else []
def MIs (G : Gx) (M : Mem) (H : Hp) (a : Addr) : MO → Prop
  | .lst ds => pureL ds = true ∧ ∃ xs, H a = some (.lst xs) ∧ IsL G M H ds xs
  | .obj c ds => ds.length ≤ (clsF c).length ∧ ∃ dx vs, H a = some (.ins (He.ga G.K c) dx ((clsF c).zip vs)) ∧ FIsL G M H ds vs
  | .dct ks ds => pureL ds = true ∧ ks.length = ds.length ∧ ∃ xs, H a = some (.dK (ks.zip xs)) ∧ IsL G M H ds xs
  | .lck o xs ks ds => pureL ds = true ∧ ks.length = ds.length ∧ H a = some (.frz o (.dK (ks.zip xs))) ∧ IsL G M H ds xs
def Own (G : Gx) (M : Mem) (H : Hp) : Prop := ∀ a m, M a = some m → MIs G M H a m
/-- what is not owned stays; what is owned is owned on -/
structure Ext (M M' : Mem) (H H' : Hp) : Prop where
  st : ∀ a o, M a = none → H a = some o → H' a = some o ∧ M' a = none
  ow : ∀ a, (M a).isSome = true → (M' a).isSome = true
theorem Ext.refl {M : Mem} {H : Hp} : Ext M M H H := ⟨fun _ _ m h => ⟨h, m⟩, fun _ h => h⟩
theorem Ext.trans {M M1 M2 : Mem} {H H1 H2 : Hp} (a : Ext M M1 H H1) (b : Ext M1 M2 H1 H2) : Ext M M2 H H2 :=
  ⟨fun c o m h => let ⟨h1, m1⟩ := a.st c o m h; b.st c o m1 h1, fun c h => b.ow c (a.ow c h)⟩
theorem Ext.new {M : Mem} {H : Hp} {p : Addr} {o : HO} (h : H p = none) : Ext M M H (upd H p o) :=
  ⟨fun a u m e => ⟨by rw [upd_ne (ne_of_none e h)]; exact e, m⟩, fun _ h => h⟩
theorem Ext.newOwn {M : Mem} {H : Hp} {p : Addr} {o : HO} {m : MO} (h : H p = none) : Ext M (mset M p m) H (upd H p o) :=
  ⟨fun a u mm e => ⟨by rw [upd_ne (ne_of_none e h)]; exact e, by rw [mset_ne (ne_of_none e h)]; exact mm⟩, fun a ha => by
    unfold mset; split
    · rfl
    · exact ha⟩
theorem Ext.put {M : Mem} {H : Hp} {p : Addr} {o : HO} {m : MO} (h : (M p).isSome = true) : Ext M (mset M p m) H (upd H p o) :=
  ⟨fun a u mm e => by
    have ne : a ≠ p := fun z => by rw [z] at mm; rw [mm] at h; cases h
    exact ⟨by rw [upd_ne ne]; exact e, by rw [mset_ne ne]; exact mm⟩, fun a ha => by
    unfold mset; split
    · rfl
    · exact ha⟩
mutual
theorem Is.ext {G : Gx} {M M' : Mem} {H H' : Hp} (x : Ext M M' H H') : ∀ (d : D) (v : V), Is G M H d v → Is G M' H' d v
  | .non, _, h => h
  | .bl _, _, h => h
  | .int _, _, h => h
  | .str _, _, h => h
  | .tup ds, _, h => by
    unfold Is at h ⊢
    obtain ⟨a, xs, e, m, ha, hl⟩ := h
    exact ⟨a, xs, e, (x.st a _ m ha).2, (x.st a _ m ha).1, IsL.ext x ds xs hl⟩
  | .lst ds, _, h => by
    unfold Is at h ⊢
    obtain ⟨a, xs, e, m, ha, hl⟩ := h
    exact ⟨a, xs, e, (x.st a _ m ha).2, (x.st a _ m ha).1, IsL.ext x ds xs hl⟩
  | .scr ns, _, h => by
    unfold Is at h ⊢
    obtain ⟨a, e, h⟩ := h
    rcases h with ⟨m, o, ha⟩ | h
    · exact ⟨a, e, .inl ⟨(x.st a _ m ha).2, o, (x.st a _ m ha).1⟩⟩
    · exact ⟨a, e, .inr h⟩
  | .ln t p o, _, h => by
    unfold Is at h ⊢
    obtain ⟨a, dx, q, e, m, ha, mq, hq⟩ := h
    exact ⟨a, dx, q, e, (x.st a _ m ha).2, (x.st a _ m ha).1, (x.st q _ mq hq).2, (x.st q _ mq hq).1⟩
  | .own a, _, h => by
    unfold Is at h ⊢
    exact ⟨h.1, x.ow a h.2⟩
  | .exn c f, _, h => by
    unfold Is at h ⊢
    obtain ⟨a, dd, u, e, m, ha, md, hd, hf⟩ := h
    exact ⟨a, dd, u, e, (x.st a _ m ha).2, (x.st a _ m ha).1, (x.st dd _ md hd).2, (x.st dd _ md hd).1, Is.ext x f u hf⟩
  | .cls, _, h => by
    unfold Is at h ⊢
    exact h
  | .exn0 c, _, h => by
    unfold Is at h ⊢
    obtain ⟨a, e, m, ha⟩ := h
    exact ⟨a, e, (x.st a _ m ha).2, (x.st a _ m ha).1⟩
  | .dct ks ds, _, h => by
    unfold Is at h ⊢
    obtain ⟨a, xs, e, m, ha, hn, hl⟩ := h
    exact ⟨a, xs, e, (x.st a _ m ha).2, (x.st a _ m ha).1, hn, IsL.ext x ds xs hl⟩
theorem IsL.ext {G : Gx} {M M' : Mem} {H H' : Hp} (x : Ext M M' H H') : ∀ (ds : List D) (vs : List V), IsL G M H ds vs → IsL G M' H' ds vs
  | [], [], _ => by unfold IsL; trivial
  | [], _ :: _, h => by unfold IsL at h; exact h.elim
  | _ :: _, [], h => by unfold IsL at h; exact h.elim
  | d :: ds, v :: vs, h => by
    unfold IsL at h ⊢
    exact ⟨Is.ext x d v h.1, IsL.ext x ds vs h.2⟩
end
theorem IsL.nil {G : Gx} {M : Mem} {H : Hp} : IsL G M H [] [] := by unfold IsL; trivial
theorem IsL.cons {G : Gx} {M : Mem} {H : Hp} {d : D} {v : V} {ds : List D} {vs : List V} (h : Is G M H d v) (t : IsL G M H ds vs) : IsL G M H (d :: ds) (v :: vs) := by unfold IsL; exact ⟨h, t⟩
theorem IsL.len {G : Gx} {M : Mem} {H : Hp} : ∀ {ds : List D} {vs : List V}, IsL G M H ds vs → ds.length = vs.length
  | [], [], _ => rfl
  | [], _ :: _, h => by unfold IsL at h; exact h.elim
  | _ :: _, [], h => by unfold IsL at h; exact h.elim
  | _ :: ds, _ :: vs, h => by unfold IsL at h; exact congrArg Nat.succ (IsL.len h.2)
theorem IsL.get {G : Gx} {M : Mem} {H : Hp} : ∀ {ds : List D} {vs : List V} {i : Nat} {d : D}, IsL G M H ds vs → ds[i]? = some d → ∃ v, vs[i]? = some v ∧ Is G M H d v
  | [], _, _, _, _, e => by simp at e
  | _ :: _, [], _, _, h, _ => by unfold IsL at h; exact h.elim
  | d :: ds, v :: vs, 0, _, h, e => by unfold IsL at h; simp at e; subst e; exact ⟨v, rfl, h.1⟩
  | _ :: ds, v :: vs, i + 1, d, h, e => by
    unfold IsL at h
    obtain ⟨u, h1, h2⟩ := IsL.get (i := i) (d := d) h.2 (by simpa using e)
    exact ⟨u, by simpa using h1, h2⟩
theorem IsL.set {G : Gx} {M : Mem} {H : Hp} : ∀ {ds : List D} {vs : List V} {i : Nat} {d : D} {v : V}, IsL G M H ds vs → Is G M H d v → IsL G M H (ds.set i d) (vs.set i v)
  | [], [], _, _, _, _, _ => IsL.nil
  | [], _ :: _, _, _, _, h, _ => by unfold IsL at h; exact h.elim
  | _ :: _, [], _, _, _, h, _ => by unfold IsL at h; exact h.elim
  | _ :: ds, _ :: vs, 0, _, _, h, e => by unfold IsL at h; exact IsL.cons e h.2
  | _ :: ds, _ :: vs, i + 1, d, v, h, e => by unfold IsL at h; exact IsL.cons h.1 (IsL.set (i := i) h.2 e)
theorem IsL.append {G : Gx} {M : Mem} {H : Hp} : ∀ {ds es : List D} {vs us : List V}, IsL G M H ds vs → IsL G M H es us → IsL G M H (ds ++ es) (vs ++ us)
  | [], _, [], _, _, h => h
  | [], _, _ :: _, _, h, _ => by unfold IsL at h; exact h.elim
  | _ :: _, _, [], _, h, _ => by unfold IsL at h; exact h.elim
  | _ :: ds, _, _ :: vs, _, h, g => by unfold IsL at h; exact IsL.cons h.1 (IsL.append h.2 g)
theorem IsL.take {G : Gx} {M : Mem} {H : Hp} : ∀ {ds : List D} {vs : List V} (n : Nat), IsL G M H ds vs → IsL G M H (ds.take n) (vs.take n)
  | _, _, 0, _ => by simp only [List.take_zero]; exact IsL.nil
  | [], [], _ + 1, _ => IsL.nil
  | [], _ :: _, _, h => by unfold IsL at h; exact h.elim
  | _ :: _, [], _, h => by unfold IsL at h; exact h.elim
  | _ :: ds, _ :: vs, n + 1, h => by unfold IsL at h; exact IsL.cons h.1 (IsL.take n h.2)
theorem IsL.drop {G : Gx} {M : Mem} {H : Hp} : ∀ {ds : List D} {vs : List V} (n : Nat), IsL G M H ds vs → IsL G M H (ds.drop n) (vs.drop n)
  | _, _, 0, h => h
  | [], [], _ + 1, _ => IsL.nil
  | [], _ :: _, _, h => by unfold IsL at h; exact h.elim
  | _ :: _, [], _, h => by unfold IsL at h; exact h.elim
  | _ :: ds, _ :: vs, n + 1, h => by unfold IsL at h; exact IsL.drop n h.2
theorem Is.int_iff {G : Gx} {M : Mem} {H : Hp} {i : Int} {v : V} : Is G M H (.int i) v ↔ v = .int i := by unfold Is; exact Iff.rfl
theorem is_int {G : Gx} {M : Mem} {H : Hp} {i : Int} : Is G M H (.int i) (.int i) := by unfold Is; rfl
theorem is_bl {G : Gx} {M : Mem} {H : Hp} {i : Bool} : Is G M H (.bl i) (.bl i) := by unfold Is; rfl
theorem is_str {G : Gx} {M : Mem} {H : Hp} {i : Str} : Is G M H (.str i) (.str i) := by unfold Is; rfl
theorem is_non {G : Gx} {M : Mem} {H : Hp} : Is G M H .non .non := by unfold Is; rfl
theorem FIs.ext {G : Gx} {M M' : Mem} {H H' : Hp} (x : Ext M M' H H') (d : D) (v : V) (h : FIs G M H d v) : FIs G M' H' d v := by
  cases d with
  | own b => exact h
  | _ => exact ⟨h.1, Is.ext x _ _ h.2⟩
theorem FIsL.ext {G : Gx} {M M' : Mem} {H H' : Hp} (x : Ext M M' H H') : ∀ (ds : List D) (vs : List V), FIsL G M H ds vs → FIsL G M' H' ds vs
  | [], [], _ => trivial
  | [], _ :: _, h => h.elim
  | _ :: _, [], h => h.elim
  | d :: ds, v :: vs, h => ⟨FIs.ext x d v h.1, FIsL.ext x ds vs h.2⟩
theorem MIs.ext {G : Gx} {M M' : Mem} {H H' : Hp} {a : Addr} (x : Ext M M' H H') (k : H' a = H a) : ∀ (m : MO), MIs G M H a m → MIs G M' H' a m
  | .lst ds, ⟨pu, xs, h1, h2⟩ => ⟨pu, xs, by rw [k]; exact h1, IsL.ext x ds xs h2⟩
  | .obj _ ds, ⟨hl, dx, vs, h1, h2⟩ => ⟨hl, dx, vs, by rw [k]; exact h1, FIsL.ext x ds vs h2⟩
  | .dct _ ds, ⟨pu, hn, xs, h1, h2⟩ => ⟨pu, hn, xs, by rw [k]; exact h1, IsL.ext x ds xs h2⟩
  | .lck _ xs _ ds, ⟨pu, hn, h1, h2⟩ => ⟨pu, hn, by rw [k]; exact h1, IsL.ext x ds xs h2⟩
theorem MIs.there {G : Gx} {M : Mem} {H : Hp} {a : Addr} : ∀ {m : MO}, MIs G M H a m → ∃ u, H a = some u
  | .lst _, ⟨_, _, h1, _⟩ => ⟨_, h1⟩
  | .obj _ _, ⟨_, _, _, h1, _⟩ => ⟨_, h1⟩
  | .dct _ _, ⟨_, _, _, h1, _⟩ => ⟨_, h1⟩
  | .lck _ _ _ _, ⟨_, _, h1, _⟩ => ⟨_, h1⟩
theorem Own.ext {G : Gx} {M : Mem} {H H' : Hp} (o : Own G M H) (x : Ext M M H H') (k : ∀ a, (M a).isSome = true → H' a = H a) : Own G M H' := fun a m e =>
  MIs.ext x (k a (by rw [e]; rfl)) m (o a m e)
theorem Own.there {G : Gx} {M : Mem} {H : Hp} (o : Own G M H) {a : Addr} (h : (M a).isSome = true) : ∃ u, H a = some u := by
  cases e : M a with
  | none => rw [e] at h; cases h
  | some m => exact (o a m e).there
/-- a fresh place owns nothing -/
theorem Own.fresh {G : Gx} {M : Mem} {H : Hp} (o : Own G M H) {p : Addr} (h : H p = none) : M p = none := by
  cases e : M p with
  | none => rfl
  | some m =>
    obtain ⟨u, hu⟩ := o.there (a := p) (by rw [e]; rfl)
    rw [h] at hu; cases hu
theorem Own.new {G : Gx} {M : Mem} {H : Hp} {p : Addr} {u : HO} (o : Own G M H) (h : H p = none) : Own G M (upd H p u) :=
  o.ext (Ext.new h) fun a ha => by
    obtain ⟨w, hw⟩ := o.there ha
    rw [upd_ne (ne_of_none hw h)]
/-- any owned thing, new or anew -/
theorem Own.setM {G : Gx} {M : Mem} {H : Hp} {p : Addr} {m' : MO} {u : HO} (o : Own G M H) (x : Ext M (mset M p m') H (upd H p u)) (hm : MIs G (mset M p m') (upd H p u) p m') : Own G (mset M p m') (upd H p u) := fun a m e => by
  by_cases ha : a = p
  · subst ha
    rw [mset_same] at e
    cases e
    exact hm
  · rw [mset_ne ha] at e
    exact MIs.ext x (upd_ne ha) m (o a m e)
theorem Own.newOwn {G : Gx} {M : Mem} {H : Hp} {p : Addr} {ds : List D} {xs : List V} (o : Own G M H) (h : H p = none) (pu : pureL ds = true) (hl : IsL G M H ds xs) : Own G (mset M p (.lst ds)) (upd H p (.lst xs)) :=
  o.setM (Ext.newOwn h) ⟨pu, xs, upd_same, IsL.ext (Ext.newOwn h) ds xs hl⟩
theorem Own.put {G : Gx} {M : Mem} {H : Hp} {p : Addr} {ds : List D} {xs : List V} (o : Own G M H) (h : (M p).isSome = true) (pu : pureL ds = true) (hl : IsL G M H ds xs) : Own G (mset M p (.lst ds)) (upd H p (.lst xs)) :=
  o.setM (Ext.put h) ⟨pu, xs, upd_same, IsL.ext (Ext.put h) ds xs hl⟩
mutual
/-- pure data lean on what is not owned alone -/
theorem Is.sub {G : Gx} {M M' : Mem} {H : Hp} (x : ∀ a, M a = none → M' a = none) : ∀ (d : D) (v : V), pureD d = true → Is G M H d v → Is G M' H d v
  | .non, _, _, h => h
  | .bl _, _, _, h => h
  | .int _, _, _, h => h
  | .str _, _, _, h => h
  | .tup ds, _, p, h => by
    unfold Is at h ⊢
    unfold pureD at p
    obtain ⟨a, xs, e, m, ha, hl⟩ := h
    exact ⟨a, xs, e, x a m, ha, IsL.sub x ds xs p hl⟩
  | .lst ds, _, p, h => by
    unfold Is at h ⊢
    unfold pureD at p
    obtain ⟨a, xs, e, m, ha, hl⟩ := h
    exact ⟨a, xs, e, x a m, ha, IsL.sub x ds xs p hl⟩
  | .scr ns, _, _, h => by
    unfold Is at h ⊢
    obtain ⟨a, e, h⟩ := h
    rcases h with ⟨m, o, ha⟩ | h
    · exact ⟨a, e, .inl ⟨x a m, o, ha⟩⟩
    · exact ⟨a, e, .inr h⟩
  | .ln t p o, _, _, h => by
    unfold Is at h ⊢
    obtain ⟨a, dx, q, e, m, ha, mq, hq⟩ := h
    exact ⟨a, dx, q, e, x a m, ha, x q mq, hq⟩
  | .own a, _, p, h => by unfold pureD at p; cases p
  | .exn c f, _, p, h => by
    unfold Is at h ⊢
    unfold pureD at p
    obtain ⟨a, dd, u, e, m, ha, md, hd, hf⟩ := h
    exact ⟨a, dd, u, e, x a m, ha, x dd md, hd, Is.sub x f u p hf⟩
  | .cls, _, _, h => by
    unfold Is at h ⊢
    exact h
  | .exn0 c, _, _, h => by
    unfold Is at h ⊢
    obtain ⟨a, e, m, ha⟩ := h
    exact ⟨a, e, x a m, ha⟩
  | .dct ks ds, _, p, h => by
    unfold Is at h ⊢
    unfold pureD at p
    obtain ⟨a, xs, e, m, ha, hn, hl⟩ := h
    exact ⟨a, xs, e, x a m, ha, hn, IsL.sub x ds xs p hl⟩
theorem IsL.sub {G : Gx} {M M' : Mem} {H : Hp} (x : ∀ a, M a = none → M' a = none) : ∀ (ds : List D) (vs : List V), pureL ds = true → IsL G M H ds vs → IsL G M' H ds vs
  | [], [], _, _ => by unfold IsL; trivial
  | [], _ :: _, _, h => by unfold IsL at h; exact h.elim
  | _ :: _, [], _, h => by unfold IsL at h; exact h.elim
  | d :: ds, v :: vs, p, h => by
    unfold IsL at h ⊢
    unfold pureL at p
    rw [Bool.and_eq_true] at p
    exact ⟨Is.sub x d v p.1 h.1, IsL.sub x ds vs p.2 h.2⟩
end
/-- a smaller memory -/
def Sub (M2 M : Mem) : Prop := ∀ a m, M2 a = some m → M a = some m
theorem Sub.non {M2 M : Mem} (s : Sub M2 M) {a : Addr} (h : M a = none) : M2 a = none := by
  cases e : M2 a with
  | none => rfl
  | some m => rw [s a m e] at h; cases h
theorem Sub.refl {M : Mem} : Sub M M := fun _ _ h => h
theorem Sub.set {M : Mem} {p : Addr} {m : MO} (h : M p = none) : Sub M (mset M p m) := fun a n e => by
  have ne : a ≠ p := fun z => by rw [z, h] at e; cases e
  rw [mset_ne ne]; exact e
theorem FIsL.sub {G : Gx} {M M' : Mem} {H : Hp} (x : ∀ a, M a = none → M' a = none) : ∀ (ds : List D) (vs : List V), FIsL G M H ds vs → FIsL G M' H ds vs
  | [], [], _ => trivial
  | [], _ :: _, h => h.elim
  | _ :: _, [], h => h.elim
  | d :: ds, v :: vs, h => ⟨by
    have h1 := h.1
    cases d with
    | own b => exact h1
    | _ => exact ⟨h1.1, Is.sub x _ _ h1.1 h1.2⟩, FIsL.sub x ds vs h.2⟩
theorem Own.sub {G : Gx} {M M2 : Mem} {H : Hp} (o : Own G M H) (s : Sub M2 M) : Own G M2 H := fun a m e => by
  have q := o a m (s a m e)
  cases m with
  | lst ds =>
    obtain ⟨pu, xs, h1, h2⟩ := q
    exact ⟨pu, xs, h1, IsL.sub (fun b hb => s.non hb) ds xs pu h2⟩
  | obj c ds =>
    obtain ⟨hl, dx, vs, h1, h2⟩ := q
    exact ⟨hl, dx, vs, h1, FIsL.sub (fun b hb => s.non hb) ds vs h2⟩
  | dct ks ds =>
    obtain ⟨pu, hn, xs, h1, h2⟩ := q
    exact ⟨pu, hn, xs, h1, IsL.sub (fun b hb => s.non hb) ds xs pu h2⟩
  | lck o xs ks ds =>
    obtain ⟨pu, hn, h1, h2⟩ := q
    exact ⟨pu, hn, h1, IsL.sub (fun b hb => s.non hb) ds xs pu h2⟩
theorem Ext.sub {M M' M2 : Mem} {H H' : Hp} (x : Ext M M' H H') (s : Sub M2 M') (d : ∀ a, (M a).isSome = true → (M2 a).isSome = true) : Ext M M2 H H' :=
  ⟨fun a o m h => ⟨(x.st a o m h).1, s.non (x.st a o m h).2⟩, d⟩
/-! ### states -/
abbrev Gm := List (Option D)
def gt : Gm → Nat → Option D
  | [], _ => none
  | x :: _, 0 => x
  | _ :: r, n + 1 => gt r n
def gset : Gm → Nat → Option D → Gm
  | [], _, _ => []
  | _ :: r, 0, d => d :: r
  | x :: r, n + 1, d => x :: gset r n d
def SlR (G : Gx) (M : Mem) (H : Hp) : Gm → St → Prop
  | [], [] => True
  | none :: r, _ :: s => SlR G M H r s
  | some d :: r, x :: s => (∃ v, x = some v ∧ Is G M H d v) ∧ SlR G M H r s
  | _, _ => False
theorem SlR.ext {G : Gx} {M M' : Mem} {H H' : Hp} (x : Ext M M' H H') : ∀ {γ : Gm} {σ : St}, SlR G M H γ σ → SlR G M' H' γ σ
  | [], [], _ => trivial
  | [], _ :: _, h => h.elim
  | _ :: _, [], h => by rename_i a b; cases a <;> exact h.elim
  | none :: r, _ :: s, h => SlR.ext (γ := r) (σ := s) x h
  | some d :: r, y :: s, h => ⟨let ⟨v, e, q⟩ := h.1; ⟨v, e, Is.ext x d v q⟩, SlR.ext (γ := r) (σ := s) x h.2⟩
theorem SlR.get {G : Gx} {M : Mem} {H : Hp} : ∀ {γ : Gm} {σ : St} {i : Nat} {d : D}, SlR G M H γ σ → gt γ i = some d → ∃ v, σ[i]? = some (some v) ∧ Is G M H d v
  | [], _, _, _, _, e => by cases e
  | a :: _, [], _, _, h, _ => by cases a <;> exact h.elim
  | none :: r, _ :: s, 0, _, _, e => by cases e
  | some d :: r, y :: s, 0, d', h, e => by
    have e' : some d = some d' := e
    cases e'
    obtain ⟨⟨v, e1, q⟩, _⟩ := h
    exact ⟨v, by simp [e1], q⟩
  | none :: r, y :: s, i + 1, d, h, e => by
    obtain ⟨v, h1, h2⟩ := SlR.get (γ := r) (σ := s) (i := i) (d := d) h e
    exact ⟨v, by simpa using h1, h2⟩
  | some _ :: r, y :: s, i + 1, d, h, e => by
    obtain ⟨v, h1, h2⟩ := SlR.get (γ := r) (σ := s) (i := i) (d := d) h.2 e
    exact ⟨v, by simpa using h1, h2⟩
theorem SlR.set {G : Gx} {M : Mem} {H : Hp} : ∀ {γ : Gm} {σ : St} {i : Nat} {d : D} {v : V}, SlR G M H γ σ → Is G M H d v → SlR G M H (gset γ i (some d)) (σ.set i (some v))
  | [], [], _, _, _, _, _ => trivial
  | [], _ :: _, _, _, _, h, _ => h.elim
  | a :: _, [], _, _, _, h, _ => by cases a <;> exact h.elim
  | none :: r, y :: s, 0, d, v, h, e => ⟨⟨v, rfl, e⟩, h⟩
  | some _ :: r, y :: s, 0, d, v, h, e => ⟨⟨v, rfl, e⟩, h.2⟩
  | none :: r, y :: s, i + 1, d, v, h, e => SlR.set (γ := r) (σ := s) (i := i) h e
  | some _ :: r, y :: s, i + 1, d, v, h, e => ⟨h.1, SlR.set (γ := r) (σ := s) (i := i) h.2 e⟩
structure Rel (G : Gx) (M : Mem) (γ : Gm) (σ : St) (H : Hp) : Prop where
  sl : SlR G M H γ σ
  ow : Own G M H
theorem Rel.mk' {G : Gx} {M M' : Mem} {γ : Gm} {σ : St} {H H' : Hp} (r : Rel G M γ σ H) (x : Ext M M' H H') (o : Own G M' H') : Rel G M' γ σ H' := ⟨r.sl.ext x, o⟩
abbrev DR := D → Mem → Prop
abbrev DE := Gm → Mem → DR → Prop
abbrev DT := Gm → Mem → (Bool → Mem → Prop) → Prop
abbrev DA := Gm → Mem → (List D → Mem → Prop) → Prop
/-- what a reading is to do: from the state, to a value that is the datum -/
def Post (G : Gx) (M : Mem) (γ : Gm) (σ : St) (H : Hp) (R : DR) (Q : VK) : Prop := ∀ d M' x H', Own G M' H' → Is G M' H' d x → Ext M M' H H' → R d M' → Q x H'
def Snd (G : Gx) (t : TE) (v : DE) : Prop := ∀ (γ : Gm) (M : Mem) (R : DR) (σ : St) (H : Hp) (Q : VK), Rel G M γ σ H → v γ M R →
  (∀ d M' x H', Own G M' H' → Is G M' H' d x → Ext M M' H H' → R d M' → Q x H') → t σ H Q
def SndT (G : Gx) (t : TT) (v : DT) : Prop := ∀ (γ : Gm) (M : Mem) (R : Bool → Mem → Prop) (σ : St) (H : Hp) (Q : Bool → Hp → Prop), Rel G M γ σ H → v γ M R →
  (∀ b M' H', Own G M' H' → Ext M M' H H' → R b M' → Q b H') → t σ H Q
def SndA (G : Gx) (t : TA) (v : DA) : Prop := ∀ (γ : Gm) (M : Mem) (R : List D → Mem → Prop) (σ : St) (H : Hp) (Q : List V → Hp → Prop), Rel G M γ σ H → v γ M R →
  (∀ ds M' xs H', Own G M' H' → IsL G M' H' ds xs → Ext M M' H H' → R ds M' → Q xs H') → t σ H Q
structure QE (X : Cx) (C : Addr) (e : Expr) (v : DE) : Prop where
  ex : ∃ t, PE X e t ∧ Snd ⟨X.K, C⟩ t v
structure QT (X : Cx) (C : Addr) (e : Expr) (v : DT) : Prop where
  ex : ∃ t, PT X e t ∧ SndT ⟨X.K, C⟩ t v
structure QA (X : Cx) (C : Addr) (es : List Expr) (v : DA) : Prop where
  ex : ∃ t, PA X es t ∧ SndA ⟨X.K, C⟩ t v
/-! ### names, constants -/
def vVar (i : Nat) : DE := fun γ M R => match gt γ i with
  | some d => R d M
  | none => False
def vC (d : D) : DE := fun _ M R => R d M
section
variable {X : Cx} {C : Addr} {a b : Expr} {va vb : DE} {pos : Pos}
theorem snd_var {G : Gx} {i : Nat} : Snd G (tVar i) (vVar i) := fun γ M R σ H Q r h k => by
  unfold vVar at h
  cases e : gt γ i with
  | none => rw [e] at h; exact h.elim
  | some d =>
    rw [e] at h
    obtain ⟨v, h1, h2⟩ := r.sl.get e
    exact ⟨v, h1, k d M v H r.ow h2 Ext.refl h⟩
theorem qv (i : Nat) {x : Str} {pos : Pos} (hN : X.N[i]? = some x := by rfl) (hv : Vis X.env.scope x := by first | exact Or.inl rfl | exact Or.inr (Or.inl rfl) | exact Or.inr (Or.inr rfl)) (hd : (x == ("__debug__" : Str)) = false := by decide)
    (hcd : (x == ("__classdict__" : Str)) = false := by decide) : QE X C (.Name x pos) (vVar i) := ⟨_, pe_var hN hv hd hcd, snd_var⟩
theorem qi {i j pos} : QE X C (.Constant (.int i) j pos) (vC (.int i)) := ⟨_, pe_int, fun _ M R _ H Q r h k => k _ M _ H r.ow is_int Ext.refl h⟩
theorem qb {i j pos} : QE X C (.Constant (.bool i) j pos) (vC (.bl i)) := ⟨_, pe_bl, fun _ M R _ H Q r h k => k _ M _ H r.ow is_bl Ext.refl h⟩
theorem qs {i j pos} : QE X C (.Constant (.str i) j pos) (vC (.str i)) := ⟨_, pe_str, fun _ M R _ H Q r h k => k _ M _ H r.ow is_str Ext.refl h⟩
theorem qn {j pos} : QE X C (.Constant .none j pos) (vC .non) := ⟨_, pe_non, fun _ M R _ H Q r h k => k _ M _ H r.ow is_non Ext.refl h⟩
/-- a module's number or text -/
theorem qg {x : Str} {i : Int} {pos : Pos} (hg : Gl X x) (hm : ∃ t, X.mg x = some (.int i t)) (hd : (x == ("__debug__" : Str)) = false := by decide) : QE X C (.Name x pos) (vC (.int i)) := by
  obtain ⟨t, e⟩ := hm
  exact ⟨_, pe_glob (v := .int i) hg e ⟨t, rfl⟩ hd, fun _ M R _ H Q r h k => k _ M _ H r.ow is_int Ext.refl h⟩
theorem qgs {x : Str} {i : Str} {pos : Pos} (hg : Gl X x) (hm : ∃ t, X.mg x = some (.str i t)) (hd : (x == ("__debug__" : Str)) = false := by decide) : QE X C (.Name x pos) (vC (.str i)) := by
  obtain ⟨t, e⟩ := hm
  exact ⟨_, pe_glob (v := .str i) hg e ⟨t, rfl⟩ hd, fun _ M R _ H Q r h k => k _ M _ H r.ow is_str Ext.refl h⟩
/-! ### two-place operations -/
abbrev DO := D → D → Mem → DR → Prop
def SndO (G : Gx) (r : R2) (o : DO) : Prop := ∀ (d e : D) (M : Mem) (R : DR) (H : Hp) (x y : V) (Q : VK), Own G M H → Is G M H d x → Is G M H e y → o d e M R →
  (∀ d M' x H', Own G M' H' → Is G M' H' d x → Ext M M' H H' → R d M' → Q x H') → r x y H Q
def vOp (o : DO) (a b : DE) : DE := fun γ M R => a γ M fun x M1 => b γ M1 fun y M2 => o x y M2 R
theorem snd_op {G : Gx} {ta tb : TE} {r : R2} {o : DO} (ha : Snd G ta va) (hb : Snd G tb vb) (so : SndO G r o) : Snd G (tOp r ta tb) (vOp o va vb) := fun γ M R σ H Q re h k =>
  ha γ M _ σ H _ re h fun d M1 x H1 o1 i1 e1 h1 => hb γ M1 _ σ H1 _ (re.mk' e1 o1) h1 fun d2 M2 y H2 o2 i2 e2 h2 =>
    so d d2 M2 R H2 x y Q o2 (Is.ext e2 d x i1) i2 h2 fun d3 M3 z H3 o3 i3 e3 h3 => k d3 M3 z H3 o3 i3 ((e1.trans e2).trans e3) h3
theorem qe_op {op : Operator} {r : R2} {o : DO} (ho : OpR X (binaryOp op) r) (so : SndO ⟨X.K, C⟩ r o) (ha : QE X C a va) (hb : QE X C b vb) : QE X C (.BinOp a op b pos) (vOp o va vb) := by
  obtain ⟨ta, pa, sa⟩ := ha.ex
  obtain ⟨tb, pb, sb⟩ := hb.ex
  exact ⟨_, pe_op ho pa pb, snd_op sa sb so⟩
/-- ints in, under a condition, a value out -/
def oI (K : Int → Int → Prop) (g : Int → Int → D) : DO := fun d e M R => match d, e with
  | .int i, .int j => K i j ∧ R (g i j) M
  | _, _ => False
def oI0 (g : Int → Int → D) : DO := fun d e M R => match d, e with
  | .int i, .int j => R (g i j) M
  | _, _ => False
def isFlat : D → V → Prop
  | .int i, v => v = .int i
  | .bl i, v => v = .bl i
  | _, _ => False
theorem sndO_I {G : Gx} {K : Int → Int → Prop} {g : Int → Int → D} {gv : Int → Int → V} (hg : ∀ i j (M : Mem) (H : Hp), Is G M H (g i j) (gv i j)) : SndO G (rI K gv) (oI K g) := fun d e M R H x y Q o i1 i2 h k => by
  cases d with
  | int i =>
    cases e with
    | int j =>
      unfold Is at i1 i2
      obtain ⟨hk, hr⟩ : K i j ∧ R (g i j) M := h
      exact ⟨i, j, i1, i2, hk, k _ M _ H o (hg i j M H) Ext.refl hr⟩
    | _ => exact False.elim h
  | _ => exact False.elim h
theorem sndO_I0 {G : Gx} {g : Int → Int → D} {gv : Int → Int → V} (hg : ∀ i j (M : Mem) (H : Hp), Is G M H (g i j) (gv i j)) : SndO G (rI0 gv) (oI0 g) := fun d e M R H x y Q o i1 i2 h k => by
  cases d with
  | int i =>
    cases e with
    | int j =>
      unfold Is at i1 i2
      exact ⟨i, j, i1, i2, k _ M _ H o (hg i j M H) Ext.refl h⟩
    | _ => exact False.elim h
  | _ => exact False.elim h
theorem q_sub (ha : QE X C a va) (hb : QE X C b vb) : QE X C (.BinOp a .Sub b pos) (vOp (oI0 fun i j => .int (i - j)) va vb) := qe_op op_sub (sndO_I0 fun _ _ _ _ => is_int) ha hb
theorem op_mulX : OpR X (binaryOp .Mult) (rI IntMulOk fun i j => .int (i * j)) := opI fun _ _ _ _ _ _ _ hc q => PyProof.Rows.mul_int q hc
theorem q_mul (ha : QE X C a va) (hb : QE X C b vb) : QE X C (.BinOp a .Mult b pos) (vOp (oI IntMulOk fun i j => .int (i * j)) va vb) := qe_op op_mulX (sndO_I fun _ _ _ _ => is_int) ha hb
/-- // by a positive divisor of less than 9,000 bits -/
def CD (_ j : Int) : Prop := 0 < j ∧ j.natAbs.log2 < 9000
def CDn (_ j : Int) : Prop := j ≠ 0 ∧ j.natAbs.log2 < 9000
theorem op_divX : OpR X (binaryOp .FloorDiv) (rI CD fun i j => .int (i / j)) := opI fun i j _ _ _ _ _ hc q => by
  have h1 : (0 : Int) < j := hc.1
  exact PyProof.Rows.floordiv_int (by omega) (by rw [Int.fdiv_eq_ediv_of_nonneg i (by omega)]; exact q) (.inl (PyProof.noPylong_of_log2 hc.2))
theorem op_divN : OpR X (binaryOp .FloorDiv) (rI CDn fun i j => .int (i.fdiv j)) := opI fun i j _ _ _ _ _ hc q => PyProof.Rows.floordiv_int hc.1 q (.inl (PyProof.noPylong_of_log2 hc.2))
theorem q_div (ha : QE X C a va) (hb : QE X C b vb) : QE X C (.BinOp a .FloorDiv b pos) (vOp (oI CD fun i j => .int (i / j)) va vb) := qe_op op_divX (sndO_I fun _ _ _ _ => is_int) ha hb
theorem q_divN (ha : QE X C a va) (hb : QE X C b vb) : QE X C (.BinOp a .FloorDiv b pos) (vOp (oI CDn fun i j => .int (i.fdiv j)) va vb) := qe_op op_divN (sndO_I fun _ _ _ _ => is_int) ha hb
theorem q_mod (ha : QE X C a va) (hb : QE X C b vb) : QE X C (.BinOp a .Mod b pos) (vOp (oI (fun _ j => 0 < j) fun i j => .int (i % j)) va vb) := qe_op op_mod (sndO_I fun _ _ _ _ => is_int) ha hb
theorem q_modN (ha : QE X C a va) (hb : QE X C b vb) : QE X C (.BinOp a .Mod b pos) (vOp (oI (fun _ j => j ≠ 0) fun i j => .int (i.fmod j)) va vb) := qe_op op_modN (sndO_I fun _ _ _ _ => is_int) ha hb
theorem q_shl (ha : QE X C a va) (hb : QE X C b vb) : QE X C (.BinOp a .LShift b pos) (vOp (oI CShl fun i j => .int (i * 2 ^ j.toNat)) va vb) := qe_op op_shlW (sndO_I fun _ _ _ _ => is_int) ha hb
theorem q_shr (ha : QE X C a va) (hb : QE X C b vb) : QE X C (.BinOp a .RShift b pos) (vOp (oI (fun _ j => 0 ≤ j) fun i j => .int (i / 2 ^ j.toNat)) va vb) := qe_op op_shr (sndO_I fun _ _ _ _ => is_int) ha hb
end
end Dl
namespace Dl
open PySem L2
/-! ### sequences as data -/
def seqI (M : Mem) : D → Option (List D)
  | .lst xs => some xs
  | .tup xs => some xs
  | .scr ns => some (ns.map D.int)
  | .own a => match M a with
    | some (.lst xs) => some xs
    | _ => none
  | _ => none
theorem isL_ints {G : Gx} {M : Mem} {H : Hp} : ∀ ns : List Int, IsL G M H (ns.map D.int) (ns.map V.int)
  | [] => IsL.nil
  | n :: r => IsL.cons is_int (isL_ints r)
def isTup : D → Bool
  | .tup _ => true
  | _ => false
theorem seq_at {G : Gx} {M : Mem} {H : Hp} {d : D} {v : V} {ds : List D} (o : Own G M H) (h : Is G M H d v) (e : seqI M d = some ds) :
    ∃ a xs, v = .ref a ∧ IsL G M H ds xs ∧ ((isTup d = false ∧ SqL G.K H a xs) ∨ (isTup d = true ∧ SqT G.K H a xs)) := by
  cases d with
  | lst xs =>
    unfold Is at h
    obtain ⟨a, ys, e1, m, ha, hl⟩ := h
    cases e
    exact ⟨a, ys, e1, hl, .inl ⟨rfl, SqL.of ha⟩⟩
  | tup xs =>
    unfold Is at h
    obtain ⟨a, ys, e1, m, ha, hl⟩ := h
    cases e
    exact ⟨a, ys, e1, hl, .inr ⟨rfl, SqT.of ha⟩⟩
  | scr ns =>
    unfold Is at h
    obtain ⟨a, e1, h⟩ := h
    cases e
    refine ⟨a, ns.map V.int, e1, isL_ints ns, .inl ⟨rfl, ?_⟩⟩
    rcases h with ⟨m, ob, ha⟩ | h
    · exact .inl (.inr ⟨ob, ha⟩)
    · exact .inr h
  | own a =>
    unfold Is at h
    obtain ⟨e1, hs⟩ := h
    cases q : M a with
    | none => rw [q] at hs; cases hs
    | some m =>
      cases m with
      | lst xs =>
        simp only [seqI, q] at e
        cases e
        obtain ⟨_, ys, ha, hl⟩ := o a _ q
        exact ⟨a, ys, e1, hl, .inl ⟨rfl, SqL.of ha⟩⟩
      | _ => simp only [seqI, q] at e; cases e
  | _ => cases e
/-- lists by a tracked object -/
def lstI (M : Mem) : D → Option (List D)
  | .lst xs => some xs
  | .own a => match M a with
    | some (.lst xs) => some xs
    | _ => none
  | _ => none
theorem lst_at {G : Gx} {M : Mem} {H : Hp} {d : D} {v : V} {ds : List D} (o : Own G M H) (h : Is G M H d v) (e : lstI M d = some ds) : ∃ a xs, v = .ref a ∧ IsL G M H ds xs ∧ H a = some (.lst xs) := by
  cases d with
  | lst xs =>
    unfold Is at h
    obtain ⟨a, ys, e1, m, ha, hl⟩ := h
    cases e
    exact ⟨a, ys, e1, hl, ha⟩
  | own a =>
    unfold Is at h
    obtain ⟨e1, hs⟩ := h
    cases q : M a with
    | none => rw [q] at hs; cases hs
    | some m =>
      cases m with
      | lst xs =>
        simp only [lstI, q] at e
        cases e
        obtain ⟨_, ys, ha, hl⟩ := o a _ q
        exact ⟨a, ys, e1, hl, ha⟩
      | _ => simp only [lstI, q] at e; cases e
  | _ => cases e
/-- a new list, a new tuple -/
theorem new_lst {G : Gx} {M : Mem} {H : Hp} {p : Addr} {ds : List D} {xs : List V} (o : Own G M H) (h : H p = none) (hl : IsL G M H ds xs) : Is G M (upd H p (.lst xs)) (.lst ds) (.ref p) := by
  unfold Is
  exact ⟨p, xs, rfl, o.fresh h, upd_same, IsL.ext (Ext.new h) ds xs hl⟩
theorem new_tup {G : Gx} {M : Mem} {H : Hp} {p : Addr} {ds : List D} {xs : List V} (o : Own G M H) (h : H p = none) (hl : IsL G M H ds xs) : Is G M (upd H p (.tup xs)) (.tup ds) (.ref p) := by
  unfold Is
  exact ⟨p, xs, rfl, o.fresh h, upd_same, IsL.ext (Ext.new h) ds xs hl⟩
theorem is_own {G : Gx} {M : Mem} {H : Hp} {p : Addr} {m : MO} : Is G (mset M p m) H (.own p) (.ref p) := by
  unfold Is
  exact ⟨rfl, by rw [mset_same]; rfl⟩
section
variable {X : Cx} {C : Addr} {a b c : Expr} {va vb vc : DE} {pos : Pos}
/-! ### + -/
def rAddAll (K : PySem.W.Frag) : R2 := fun x y H Q => (∃ i j, x = .int i ∧ y = .int j ∧ Q (.int (i + j)) H) ∨ ((∃ i j, x = .str i ∧ y = .str j ∧ i.length + j.length ≤ sizeLine ∧ Q (.str (i ++ j)) H) ∨ rCat x y H Q)
theorem op_addAll : OpR X (binaryOp .Add) (rAddAll X.K) := OpR.or op_add (OpR.or op_add_str op_cat)
def oAdd : DO := fun d e M R => match d, e with
  | .int i, .int j => R (.int (i + j)) M
  | .str i, .str j => i.length + j.length ≤ sizeLine ∧ R (.str (i ++ j)) M
  | d, e => match lstI M d, lstI M e with
    | some xs, some ys => xs.length + ys.length ≤ sizeLine ∧ R (.lst (xs ++ ys)) M
    | _, _ => False
theorem sndO_cat {G : Gx} {d e : D} {M : Mem} {R : DR} {H : Hp} {x y : V} {Q : VK} (o : Own G M H) (i1 : Is G M H d x) (i2 : Is G M H e y)
    (h : match lstI M d, lstI M e with | some xs, some ys => xs.length + ys.length ≤ sizeLine ∧ R (.lst (xs ++ ys)) M | _, _ => False)
    (k : ∀ d M' x H', Own G M' H' → Is G M' H' d x → Ext M M' H H' → R d M' → Q x H') : rCat x y H Q := by
  cases e1 : lstI M d with
  | none => rw [e1] at h; exact h.elim
  | some xs =>
    cases e2 : lstI M e with
    | none => rw [e1, e2] at h; exact h.elim
    | some ys =>
      rw [e1, e2] at h
      obtain ⟨hz, hr⟩ := h
      obtain ⟨p, us, rfl, l1, h1⟩ := lst_at o i1 e1
      obtain ⟨q, ws, rfl, l2, h2⟩ := lst_at o i2 e2
      refine ⟨p, q, us, ws, rfl, rfl, h1, h2, by rw [← l1.len, ← l2.len]; exact hz, fun n hn => ?_⟩
      exact k _ M _ _ (o.new hn) (new_lst o hn (l1.append l2)) (Ext.new hn) hr
theorem sndO_add {G : Gx} : SndO G (rAddAll G.K) oAdd := fun d e M R H x y Q o i1 i2 h k => by
  cases d with
  | int i =>
    cases e with
    | int j => unfold Is at i1 i2; exact .inl ⟨i, j, i1, i2, k _ M _ H o is_int Ext.refl h⟩
    | _ => exact .inr (.inr (sndO_cat o i1 i2 h k))
  | str i =>
    cases e with
    | str j => unfold Is at i1 i2; exact .inr (.inl ⟨i, j, i1, i2, h.1, k _ M _ H o is_str Ext.refl h.2⟩)
    | _ => exact .inr (.inr (sndO_cat o i1 i2 h k))
  | _ => exact .inr (.inr (sndO_cat o i1 i2 h k))
theorem q_add (ha : QE X C a va) (hb : QE X C b vb) : QE X C (.BinOp a .Add b pos) (vOp oAdd va vb) := qe_op op_addAll sndO_add ha hb
/-! ### ** -/
def CP (i j : Int) : Prop := 0 ≤ j ∧ (Builtin.Int.intBits i : Int) * j ≤ 2 ^ 27
theorem op_powX : OpR X (binaryOp .Pow) (rI CP fun i j => .int (i ^ j.toNat)) := opI fun _ _ _ _ _ _ _ hc q => PyProof.Rows.pow_int hc.1 hc.2 q
theorem q_pow (ha : QE X C a va) (hb : QE X C b vb) : QE X C (.BinOp a .Pow b pos) (vOp (oI CP fun i j => .int (i ^ j.toNat)) va vb) := qe_op op_powX (sndO_I fun _ _ _ _ => is_int) ha hb
/-! ### one-place -/
def vNeg (a : DE) : DE := fun γ M R => a γ M fun d M1 => match d with
  | .int i => R (.int (-i)) M1
  | _ => False
theorem q_neg (ha : QE X C a va) : QE X C (.UnaryOp .USub a pos) (vNeg va) := by
  obtain ⟨ta, pa, sa⟩ := ha.ex
  refine ⟨_, pe_un un_neg pa, fun γ M R σ H Q re h k => sa γ M _ σ H _ re h fun d M1 x H1 o1 i1 e1 h1 => ?_⟩
  cases d with
  | int i => unfold Is at i1; exact ⟨i, i1, k _ M1 _ H1 o1 is_int e1 h1⟩
  | _ => exact False.elim h1
/-! ### arguments, tuples, lists -/
def vNil : DA := fun _ M R => R [] M
def vCons (a : DE) (r : DA) : DA := fun γ M R => a γ M fun d M1 => r γ M1 fun ds M2 => R (d :: ds) M2
theorem qa_nil : QA X C [] vNil := ⟨_, pa_nil, fun _ M R _ H Q r h k => k _ M _ H r.ow IsL.nil Ext.refl h⟩
theorem snd_cons {G : Gx} {ta : TE} {tr : TA} {vr : DA} (sa : Snd G ta va) (sr : SndA G tr vr) : SndA G (tCons ta tr) (vCons va vr) := fun γ M R σ H Q re h k =>
  sa γ M _ σ H _ re h fun d M1 x H1 o1 i1 e1 h1 => sr γ M1 _ σ H1 _ (re.mk' e1 o1) h1 fun ds M2 xs H2 o2 i2 e2 h2 =>
    k _ M2 _ H2 o2 (IsL.cons (Is.ext e2 d x i1) i2) (e1.trans e2) h2
theorem qa_cons {es : List Expr} {vr : DA} (ha : QE X C a va) (hr : QA X C es vr) (hs : starEach (a :: es) X.env = (false, eval a X.env) :: starEach es X.env := by rfl) : QA X C (a :: es) (vCons va vr) := by
  obtain ⟨ta, pa, sa⟩ := ha.ex
  obtain ⟨tr, pr, sr⟩ := hr.ex
  exact ⟨_, pa_cons pa pr hs, snd_cons sa sr⟩
def vTup (a : DA) : DE := fun γ M R => a γ M fun ds M1 => ds.length ≤ sizeLine ∧ R (.tup ds) M1
def vLst (a : DA) : DE := fun γ M R => a γ M fun ds M1 => ds.length ≤ sizeLine ∧ R (.lst ds) M1
/-- a list that is owned -/
def vLstO (a : DA) : DE := fun γ M R => a γ M fun ds M1 => ds.length ≤ sizeLine ∧ pureL ds = true ∧ ∀ p, M1 p = none → R (.own p) (mset M1 p (.lst ds))
theorem q_tup {es : List Expr} {vr : DA} {k} (hr : QA X C es vr) : QE X C (.Tuple es k pos) (vTup vr) := by
  obtain ⟨tr, pr, sr⟩ := hr.ex
  refine ⟨_, pe_tup pr, fun γ M R σ H Q re h k => sr γ M _ σ H _ re h fun ds M1 xs H1 o1 i1 e1 h1 => ⟨by rw [← i1.len]; exact h1.1, fun p hp => ?_⟩⟩
  exact k _ M1 _ _ (o1.new hp) (new_tup o1 hp i1) (e1.trans (Ext.new hp)) h1.2
theorem q_lst {es : List Expr} {vr : DA} (hr : QA X C es vr) : QE X C (.List es pos) (vLst vr) := by
  obtain ⟨tr, pr, sr⟩ := hr.ex
  refine ⟨_, pe_lst pr, fun γ M R σ H Q re h k => sr γ M _ σ H _ re h fun ds M1 xs H1 o1 i1 e1 h1 => ⟨by rw [← i1.len]; exact h1.1, fun p hp => ?_⟩⟩
  exact k _ M1 _ _ (o1.new hp) (new_lst o1 hp i1) (e1.trans (Ext.new hp)) h1.2
theorem q_lstO {es : List Expr} {vr : DA} (hr : QA X C es vr) : QE X C (.List es pos) (vLstO vr) := by
  obtain ⟨tr, pr, sr⟩ := hr.ex
  refine ⟨_, pe_lst pr, fun γ M R σ H Q re h k => sr γ M _ σ H _ re h fun ds M1 xs H1 o1 i1 e1 h1 => ⟨by rw [← i1.len]; exact h1.1, fun p hp => ?_⟩⟩
  exact k _ (mset M1 p (.lst ds)) _ _ (o1.newOwn hp h1.2.1 i1) is_own (e1.trans (Ext.newOwn hp)) (h1.2.2 p (o1.fresh hp))
/-! ### subscripts -/
def nthD : List D → Nat → Option D
  | [], _ => none
  | x :: _, 0 => some x
  | _ :: r, n + 1 => nthD r n
theorem nthD_eq : ∀ (ds : List D) (n : Nat), nthD ds n = ds[n]?
  | [], _ => by simp [nthD]
  | _ :: _, 0 => by simp [nthD]
  | _ :: r, n + 1 => by simp [nthD, nthD_eq r n]
theorem atI_of_isL {G : Gx} {M : Mem} {H : Hp} {ds : List D} {xs : List V} {i : Int} {d : D} (l : IsL G M H ds xs) (h : atI ds i = some d) : ∃ v, atI xs i = some v ∧ Is G M H d v := by
  unfold atI at h ⊢
  rw [← l.len]
  cases e : ixN ds.length i with
  | none => rw [e] at h; cases h
  | some j =>
    rw [e] at h
    exact l.get h
def oIx : DO := fun d e M R => match seqI M d, e with
  | some ds, .int i => ∃ x, atI ds i = some x ∧ R x M
  | _, _ => False
theorem sndO_ix {G : Gx} : SndO G (rIx G.K) oIx := fun d e M R H x y Q o i1 i2 h k => by
  unfold oIx at h
  cases q : seqI M d with
  | none => rw [q] at h; exact h.elim
  | some ds =>
    rw [q] at h
    cases e with
    | int i =>
      obtain ⟨z, hz, hr⟩ := h
      unfold Is at i2
      obtain ⟨p, xs, e1, l, s⟩ := seq_at o i1 q
      obtain ⟨v, hv, iv⟩ := atI_of_isL l hz
      rcases s with ⟨_, s⟩ | ⟨_, s⟩
      · exact .inl ⟨p, xs, i, v, e1, i2, s, hv, k _ M _ H o iv Ext.refl hr⟩
      · exact .inr (.inl ⟨p, xs, i, v, e1, i2, s, hv, k _ M _ H o iv Ext.refl hr⟩)
    | _ => exact h.elim
theorem q_ix (ha : QE X C a va) (hb : QE X C b vb) (hs : PlainIx b := by exact fun _ _ => rfl) : QE X C (.Subscript a b pos) (vOp oIx va vb) := by
  obtain ⟨ta, pa, sa⟩ := ha.ex
  obtain ⟨tb, pb, sb⟩ := hb.ex
  exact ⟨_, pe_ix ix_seq pa pb hs, snd_op sa sb sndO_ix⟩
/-- an item at a written place -/
def vIxC (n : Nat) (a : DE) : DE := fun γ M R => a γ M fun d M1 => match seqI M1 d with
  | some ds => (match nthD ds n with
    | some x => R x M1
    | none => False)
  | none => False
theorem q_ixC (n : Nat) {i : Int} {j p} (ha : QE X C a va) (hn : i = (n : Int) := by rfl) (hs : PlainIx (.Constant (.int i) j p) := by exact fun _ _ => rfl) : QE X C (.Subscript a (.Constant (.int i) j p) pos) (vIxC n va) := by
  obtain ⟨ta, pa, sa⟩ := ha.ex
  subst hn
  refine ⟨_, pe_ix ix_seq pa pe_int hs, fun γ M R σ H Q re h k => sa γ M _ σ H _ re h fun d M1 x H1 o1 i1 e1 h1 => ?_⟩
  cases q : seqI M1 d with
  | none => rw [q] at h1; exact h1.elim
  | some ds =>
    simp only [q] at h1
    cases q2 : nthD ds n with
    | none => simp only [q2] at h1
    | some z =>
      simp only [q2] at h1
      obtain ⟨p, xs, e2, l, s⟩ := seq_at o1 i1 q
      rw [nthD_eq] at q2
      obtain ⟨v, hv, iv⟩ := l.get q2
      have hv := atI_nat hv
      rcases s with ⟨_, s⟩ | ⟨_, s⟩
      · exact .inl ⟨p, xs, _, v, e2, rfl, s, hv, k _ M1 _ H1 o1 iv e1 h1⟩
      · exact .inr (.inl ⟨p, xs, _, v, e2, rfl, s, hv, k _ M1 _ H1 o1 iv e1 h1⟩)
/-! ### slices of lists -/
def cutD (xs : List D) (lo hi : Option Int) : List D := (xs.drop (HT.sIx xs.length 0 lo)).take (HT.sIx xs.length xs.length hi - HT.sIx xs.length 0 lo)
abbrev DPt := Gm → Mem → (Option Int → Mem → Prop) → Prop
structure QO (X : Cx) (C : Addr) (e : Option Expr) (v : DPt) : Prop where
  ex : ∃ t, PO X e t ∧ ∀ (γ : Gm) (M : Mem) (R : Option Int → Mem → Prop) (σ : St) (H : Hp) (Q : Option Int → Hp → Prop), Rel ⟨X.K, C⟩ M γ σ H → v γ M R →
    (∀ o M' H', Own ⟨X.K, C⟩ M' H' → Ext M M' H H' → R o M' → Q o H') → t σ H Q
def vNoPart : DPt := fun _ M R => R none M
def vPart (a : DE) : DPt := fun γ M R => a γ M fun d M1 => match d with
  | .int i => R (some i) M1
  | _ => False
theorem qo_none : QO X C none vNoPart := ⟨_, po_none, fun _ M R _ H Q r h k => k none M H r.ow Ext.refl h⟩
theorem qo_some (ha : QE X C a va) : QO X C (some a) (vPart va) := by
  obtain ⟨ta, pa, sa⟩ := ha.ex
  refine ⟨_, po_some pa, fun γ M R σ H Q re h k => sa γ M _ σ H _ re h fun d M1 x H1 o1 i1 e1 h1 => ?_⟩
  cases d with
  | int i => unfold Is at i1; exact ⟨i, i1, k _ M1 H1 o1 e1 h1⟩
  | _ => exact False.elim h1
def vSl (a : DE) (l h : DPt) : DE := fun γ M R => a γ M fun d M1 => l γ M1 fun lo M2 => h γ M2 fun hi M3 => isTup d = false ∧ match seqI M3 d with
  | some ds => R (.lst (cutD ds lo hi)) M3
  | none => False
theorem isL_cut {G : Gx} {M : Mem} {H : Hp} {ds : List D} {xs : List V} (l : IsL G M H ds xs) (lo hi : Option Int) : IsL G M H (cutD ds lo hi) (cutV xs lo hi) := by
  unfold cutD cutV
  rw [l.len]
  exact (l.drop _).take _
theorem q_sl {lo hi : Option Expr} {vl vh : DPt} {p2} (ha : QE X C a va) (hl : QO X C lo vl) (hh : QO X C hi vh) : QE X C (.Subscript a (.Slice lo hi none p2) pos) (vSl va vl vh) := by
  obtain ⟨ta, pa, sa⟩ := ha.ex
  obtain ⟨tl, pl, sl⟩ := hl.ex
  obtain ⟨th, ph, sh⟩ := hh.ex
  refine ⟨_, pe_slice sl_list pa pl ph, fun γ M R σ H Q re h k => sa γ M _ σ H _ re h fun d M1 x H1 o1 i1 e1 h1 => sl γ M1 _ σ H1 _ (re.mk' e1 o1) h1 fun u M2 H2 o2 e2 h2 => sh γ M2 _ σ H2 _ (re.mk' (e1.trans e2) o2) h2 fun w M3 H3 o3 e3 h3 => ?_⟩
  obtain ⟨nt, h3⟩ := h3
  cases q : seqI M3 d with
  | none => rw [q] at h3; exact h3.elim
  | some ds =>
    rw [q] at h3
    obtain ⟨p, xs, e4, l, s⟩ := seq_at o3 (Is.ext (e2.trans e3) d x i1) q
    rcases s with ⟨_, s⟩ | ⟨z, _⟩
    · exact ⟨p, xs, e4, s, fun n hn => k _ M3 _ _ (o3.new hn) (new_lst o3 hn (isL_cut l u w)) (((e1.trans e2).trans e3).trans (Ext.new hn)) h3⟩
    · rw [nt] at z; cases z
/-! ### comparisons -/
mutual
def toP : D → Option PyData
  | .non => some .none
  | .bl b => some (.bool b)
  | .int i => some (.int i)
  | .str x => some (.str x)
  | .tup ds => (toPL ds).map .tuple
  | .lst ds => (toPL ds).map .list
  | _ => none
def toPL : List D → Option (List PyData)
  | [] => some []
  | d :: ds => match toP d, toPL ds with
    | some p, some ps => some (p :: ps)
    | _, _ => none
end
mutual
theorem toP_ok {G : Gx} {M : Mem} {H : Hp} : ∀ (d : D) (v : V) (p : PyData), Is G M H d v → toP d = some p → Dp G.K H v p
  | .non, v, p, h, e => by unfold Is at h; unfold toP at e; cases e; rw [h]; exact .non
  | .bl b, v, p, h, e => by unfold Is at h; unfold toP at e; cases e; rw [h]; exact .bl b
  | .int b, v, p, h, e => by unfold Is at h; unfold toP at e; cases e; rw [h]; exact .int b
  | .str b, v, p, h, e => by unfold Is at h; unfold toP at e; cases e; rw [h]; exact .str b
  | .tup ds, v, p, h, e => by
    unfold Is at h
    unfold toP at e
    obtain ⟨a, xs, e1, _, ha, hl⟩ := h
    cases q : toPL ds with
    | none => rw [q] at e; cases e
    | some ps =>
      rw [q] at e
      cases e
      rw [e1]
      exact .tup (SqT.of ha) (toPL_ok ds xs ps hl q)
  | .lst ds, v, p, h, e => by
    unfold Is at h
    unfold toP at e
    obtain ⟨a, xs, e1, _, ha, hl⟩ := h
    cases q : toPL ds with
    | none => rw [q] at e; cases e
    | some ps =>
      rw [q] at e
      cases e
      rw [e1]
      exact .lst (SqL.of ha) (toPL_ok ds xs ps hl q)
  | .scr _, v, p, h, e => by unfold toP at e; cases e
  | .ln _ _ _, v, p, h, e => by unfold toP at e; cases e
  | .own _, v, p, h, e => by unfold toP at e; cases e
  | .exn _ _, v, p, h, e => by unfold toP at e; cases e
  | .exn0 _, v, p, h, e => by unfold toP at e; cases e
  | .cls, v, p, h, e => by unfold toP at e; cases e
  | .dct _ _, v, p, h, e => by unfold toP at e; cases e
theorem toPL_ok {G : Gx} {M : Mem} {H : Hp} : ∀ (ds : List D) (vs : List V) (ps : List PyData), IsL G M H ds vs → toPL ds = some ps → DpAll G.K H vs ps
  | [], [], ps, _, e => by unfold toPL at e; cases e; exact .nil
  | [], _ :: _, _, h, _ => by unfold IsL at h; exact h.elim
  | _ :: _, [], _, h, _ => by unfold IsL at h; exact h.elim
  | d :: ds, v :: vs, ps, h, e => by
    unfold IsL at h
    unfold toPL at e
    cases q : toP d with
    | none => rw [q] at e; cases e
    | some p =>
      cases q2 : toPL ds with
      | none => rw [q, q2] at e; cases e
      | some qs =>
        rw [q, q2] at e
        cases e
        exact .cons (toP_ok d v p h.1 q) (toPL_ok ds vs qs h.2 q2)
end
/-- .. an owned list at the top -/
def toPt (M : Mem) : D → Option PyData
  | .own a => match M a with
    | some (.lst ds) => (toPL ds).map .list
    | _ => none
  | d => toP d
theorem toPt_ok {G : Gx} {M : Mem} {H : Hp} {d : D} {v : V} {p : PyData} (o : Own G M H) (h : Is G M H d v) (e : toPt M d = some p) : Dp G.K H v p := by
  cases d with
  | own a =>
    unfold Is at h
    cases q : M a with
    | none => simp only [toPt, q] at e; cases e
    | some m =>
      cases m with
      | lst ds =>
        simp only [toPt, q] at e
        obtain ⟨_, xs, ha, hl⟩ := o a _ q
        cases q2 : toPL ds with
        | none =>
          have e' : (toPL ds).map PyData.list = some p := e
          rw [q2] at e'; cases e'
        | some ps =>
          have e' : (toPL ds).map PyData.list = some p := e
          rw [q2] at e'
          cases e'
          rw [h.1]
          exact .lst (SqL.of ha) (toPL_ok ds xs ps hl q2)
      | _ => simp only [toPt, q] at e; cases e
  | _ => exact toP_ok _ _ _ h e
def oEqG (f : Bool → Bool) : DO := fun d e M R => match d, e with
  | .int i, .int j => R (.bl (f (decide (i = j)))) M
  | d, e => match toPt M d, toPt M e with
    | some p, some q => SeqAt.shaped p = true ∧ SeqAt.shaped q = true ∧ R (.bl (f (PyData.eqv p q))) M
    | _, _ => False
abbrev oEq : DO := oEqG id
abbrev oNe : DO := oEqG Bool.not
theorem sndO_eqD {G : Gx} {f : Bool → Bool} {d e : D} {M : Mem} {R : DR} {H : Hp} {x y : V} {Q : VK} (o : Own G M H) (i1 : Is G M H d x) (i2 : Is G M H e y)
    (h : match toPt M d, toPt M e with | some p, some q => SeqAt.shaped p = true ∧ SeqAt.shaped q = true ∧ R (.bl (f (PyData.eqv p q))) M | _, _ => False)
    (k : ∀ d M' x H', Own G M' H' → Is G M' H' d x → Ext M M' H H' → R d M' → Q x H') : ∃ p q, Dp G.K H x p ∧ Dp G.K H y q ∧ SeqAt.shaped p = true ∧ SeqAt.shaped q = true ∧ Q (.bl (f (PyData.eqv p q))) H := by
  cases e1 : toPt M d with
  | none => rw [e1] at h; exact h.elim
  | some p =>
    cases e2 : toPt M e with
    | none => rw [e1, e2] at h; exact h.elim
    | some q =>
      rw [e1, e2] at h
      exact ⟨p, q, toPt_ok o i1 e1, toPt_ok o i2 e2, h.1, h.2.1, k _ M _ H o is_bl Ext.refl h.2.2⟩
theorem beq_dec (i j : Int) : (i == j) = decide (i = j) := by
  rw [Bool.eq_iff_iff]; simp
theorem shaped_int (i : Int) : SeqAt.shaped (.int i) = true := by
  show (true && decide (PyData.depth (.int i) ≤ 64)) = true
  rw [Bool.true_and]
  exact decide_eq_true (by unfold PyData.depth; decide)
theorem sndO_eqG {G : Gx} {f : Bool → Bool} : SndO G (fun x y H Q => ∃ p q, Dp G.K H x p ∧ Dp G.K H y q ∧ SeqAt.shaped p = true ∧ SeqAt.shaped q = true ∧ Q (.bl (f (PyData.eqv p q))) H) (oEqG f) := fun d e M R H x y Q o i1 i2 h k => by
  cases d with
  | int i =>
    cases e with
    | int j =>
      unfold Is at i1 i2
      rw [i1, i2]
      refine ⟨.int i, .int j, .int i, .int j, shaped_int i, shaped_int j, k _ M _ H o is_bl Ext.refl ?_⟩
      have h' : R (.bl (f (decide (i = j)))) M := h
      show R (.bl (f (i == j))) M
      rw [beq_dec]
      exact h'
    | _ => exact sndO_eqD o i1 i2 h k
  | _ => exact sndO_eqD o i1 i2 h k
theorem sndO_eq {G : Gx} : SndO G (rEqD G.K) oEq := sndO_eqG (f := id)
theorem sndO_ne {G : Gx} : SndO G (rNeD G.K) oNe := sndO_eqG (f := Bool.not)
/-- a comparison's rule at a context with room -/
structure CmpQ (X : Cx) (C : Addr) (op : CmpOp) (o : DO) : Prop where
  ex : ∃ r, OpR X (compareOp op) r ∧ SndO ⟨X.K, C⟩ r o
theorem c_lt : CmpQ X C .Lt (oI0 fun i j => .bl (decide (i < j))) := ⟨_, op_lt, sndO_I0 fun _ _ _ _ => is_bl⟩
theorem c_le : CmpQ X C .LtE (oI0 fun i j => .bl (decide (i ≤ j))) := ⟨_, op_le, sndO_I0 fun _ _ _ _ => is_bl⟩
theorem c_gt : CmpQ X C .Gt (oI0 fun i j => .bl (decide (j < i))) := ⟨_, op_gt, sndO_I0 fun _ _ _ _ => is_bl⟩
theorem c_ge : CmpQ X C .GtE (oI0 fun i j => .bl (decide (j ≤ i))) := ⟨_, op_ge, sndO_I0 fun _ _ _ _ => is_bl⟩
theorem c_eq {k : Nat} (hr : Room k X.A) : CmpQ X C .Eq oEq := ⟨_, op_eqD hr.units, sndO_eq⟩
theorem c_ne {k : Nat} (hr : Room k X.A) : CmpQ X C .NotEq oNe := ⟨_, op_neD hr.units, sndO_ne⟩
theorem q_cmp {op : CmpOp} {o : DO} (ho : CmpQ X C op o) (ha : QE X C a va) (hb : QE X C b vb) (hm : behindInMarks op b = false := by first | exact nomark _ | rfl) : QE X C (.Compare a [op] [b] pos) (vOp o va vb) := by
  obtain ⟨r, pr, sr⟩ := ho.ex
  obtain ⟨ta, pa, sa⟩ := ha.ex
  obtain ⟨tb, pb, sb⟩ := hb.ex
  exact ⟨_, pe_cmpR pr pa pb hm, snd_op sa sb sr⟩
/-- a value as a test -/
def vB (v : DE) : DT := fun γ M R => v γ M fun d M1 => match d with
  | .bl b => R b M1
  | _ => False
theorem snd_test {G : Gx} {t : TE} {v : DE} (s : Snd G t v) : SndT G (tTest t) (vB v) := fun γ M R σ H Q re h k => s γ M _ σ H _ re h fun d M1 x H1 o1 i1 e1 h1 => by
  cases d with
  | bl b => unfold Is at i1; exact ⟨b, i1, k b M1 H1 o1 e1 h1⟩
  | _ => exact False.elim h1
theorem qt_cmp {op : CmpOp} {o : DO} (ho : CmpQ X C op o) (ha : QE X C a va) (hb : QE X C b vb) (hm : behindInMarks op b = false := by first | exact nomark _ | rfl) : QT X C (.Compare a [op] [b] pos) (vB (vOp o va vb)) := by
  obtain ⟨r, pr, sr⟩ := ho.ex
  obtain ⟨ta, pa, sa⟩ := ha.ex
  obtain ⟨tb, pb, sb⟩ := hb.ex
  exact ⟨_, pt_cmpR pr pa pb hm, snd_test (snd_op sa sb sr)⟩
/-- a op b op c -/
def vChain (o o' : DO) (a b c : DE) : DE := fun γ M R => a γ M fun x M1 => b γ M1 fun y M2 => o x y M2 fun z M3 => match z with
  | .bl k => (k = true → c γ M3 fun w M4 => o' y w M4 R) ∧ (k = false → R (.bl false) M3)
  | _ => False
theorem snd_chain {G : Gx} {ta tb tc : TE} {r r' : R2} {o o' : DO} (sa : Snd G ta va) (sb : Snd G tb vb) (sc : Snd G tc vc) (s1 : SndO G r o) (s2 : SndO G r' o') : Snd G (tChain r r' ta tb tc) (vChain o o' va vb vc) := fun γ M R σ H Q re h k =>
  sa γ M _ σ H _ re h fun d M1 x H1 o1 i1 e1 h1 => sb γ M1 _ σ H1 _ (re.mk' e1 o1) h1 fun d2 M2 y H2 o2 i2 e2 h2 =>
    s1 d d2 M2 _ H2 x y _ o2 (Is.ext e2 d x i1) i2 h2 fun d3 M3 z H3 o3 i3 e3 h3 => by
      cases d3 with
      | bl b =>
        unfold Is at i3
        refine ⟨b, i3, ?_⟩
        cases b with
        | true =>
          rw [if_pos rfl]
          refine sc γ M3 _ σ H3 _ (re.mk' ((e1.trans e2).trans e3) o3) (h3.1 rfl) fun d4 M4 w H4 o4 i4 e4 h4 => ?_
          exact s2 d2 d4 M4 R H4 y w Q o4 (Is.ext (e3.trans e4) d2 y i2) i4 h4 fun d5 M5 u H5 o5 i5 e5 h5 => k d5 M5 u H5 o5 i5 ((((e1.trans e2).trans e3).trans e4).trans e5) h5
        | false =>
          rw [if_neg Bool.false_ne_true]
          exact k _ M3 _ H3 o3 is_bl ((e1.trans e2).trans e3) (h3.2 rfl)
      | _ => exact False.elim h3
theorem q_chain {op op' : CmpOp} {o o' : DO} (ho : CmpQ X C op o) (ho' : CmpQ X C op' o') (ha : QE X C a va) (hb : QE X C b vb) (hc : QE X C c vc) (hm : lastMarks [op, op'] [b, c] = false := by with_unfolding_all rfl) : QE X C (.Compare a [op, op'] [b, c] pos) (vChain o o' va vb vc) := by
  obtain ⟨r, pr, sr⟩ := ho.ex
  obtain ⟨r', pr', sr'⟩ := ho'.ex
  obtain ⟨ta, pa, sa⟩ := ha.ex
  obtain ⟨tb, pb, sb⟩ := hb.ex
  obtain ⟨tc, pc, sc⟩ := hc.ex
  exact ⟨_, pe_chain pr pr' pa pb pc hm, snd_chain sa sb sc sr sr'⟩
theorem qt_chain {op op' : CmpOp} {o o' : DO} (ho : CmpQ X C op o) (ho' : CmpQ X C op' o') (ha : QE X C a va) (hb : QE X C b vb) (hc : QE X C c vc) (hm : lastMarks [op, op'] [b, c] = false := by with_unfolding_all rfl) : QT X C (.Compare a [op, op'] [b, c] pos) (vB (vChain o o' va vb vc)) := by
  obtain ⟨r, pr, sr⟩ := ho.ex
  obtain ⟨r', pr', sr'⟩ := ho'.ex
  obtain ⟨ta, pa, sa⟩ := ha.ex
  obtain ⟨tb, pb, sb⟩ := hb.ex
  obtain ⟨tc, pc, sc⟩ := hc.ex
  exact ⟨_, pt_chain pr pr' pa pb pc hm, snd_test (snd_chain sa sb sc sr sr')⟩
/-- is None -/
def isNon : D → Bool
  | .non => true
  | _ => false
theorem isNon_ok {G : Gx} {M : Mem} {H : Hp} {d : D} {v : V} (h : Is G M H d v) : decide (v = .non) = isNon d := by
  cases d with
  | non => unfold Is at h; rw [h]; rfl
  | bl b => unfold Is at h; rw [h]; rfl
  | int b => unfold Is at h; rw [h]; rfl
  | str b => unfold Is at h; rw [h]; rfl
  | tup b => unfold Is at h; obtain ⟨a, _, h, _⟩ := h; rw [h]; rfl
  | lst b => unfold Is at h; obtain ⟨a, _, h, _⟩ := h; rw [h]; rfl
  | scr b => unfold Is at h; obtain ⟨a, h, _⟩ := h; rw [h]; rfl
  | ln _ _ _ => unfold Is at h; obtain ⟨a, _, _, h, _⟩ := h; rw [h]; rfl
  | own a => unfold Is at h; rw [h.1]; rfl
  | exn _ _ => unfold Is at h; obtain ⟨a, _, _, h, _⟩ := h; rw [h]; rfl
  | exn0 _ => unfold Is at h; obtain ⟨a, h, _⟩ := h; rw [h]; rfl
  | dct _ _ => unfold Is at h; obtain ⟨a, _, h, _⟩ := h; rw [h]; rfl
  | cls => unfold Is at h; rw [h]; rfl
def vIsN (f : Bool → Bool) (a : DE) : DE := fun γ M R => a γ M fun d M1 => R (.bl (f (isNon d))) M1
theorem snd_isN {G : Gx} {ta : TE} (sa : Snd G ta va) : Snd G (tIsN ta) (vIsN id va) := fun γ M R σ H Q re h k => sa γ M _ σ H _ re h fun d M1 x H1 o1 i1 e1 h1 => k _ M1 _ H1 o1 (by unfold Is; rw [isNon_ok i1]; rfl) e1 h1
theorem snd_notN {G : Gx} {ta : TE} (sa : Snd G ta va) : Snd G (tNotN ta) (vIsN Bool.not va) := fun γ M R σ H Q re h k => sa γ M _ σ H _ re h fun d M1 x H1 o1 i1 e1 h1 => k _ M1 _ H1 o1 (by unfold Is; rw [isNon_ok i1]) e1 h1
theorem snd_tB {G : Gx} {t : TE} {v : DE} (s : Snd G t v) : SndT G (tB t) (vB v) := fun γ M R σ H Q re h k => s γ M _ σ H _ re h fun d M1 x H1 o1 i1 e1 h1 => by
  cases d with
  | bl b => unfold Is at i1; exact ⟨b, i1, k b M1 H1 o1 e1 h1⟩
  | _ => exact False.elim h1
theorem q_isN {j p} (ha : QE X C a va) : QE X C (.Compare a [.Is] [.Constant .none j p] pos) (vIsN id va) := by
  obtain ⟨ta, pa, sa⟩ := ha.ex
  exact ⟨_, pe_cmp (pc_isN pa), snd_isN sa⟩
theorem q_notN {j p} (ha : QE X C a va) : QE X C (.Compare a [.IsNot] [.Constant .none j p] pos) (vIsN Bool.not va) := by
  obtain ⟨ta, pa, sa⟩ := ha.ex
  exact ⟨_, pe_cmp (pc_notN pa), snd_notN sa⟩
theorem qt_isN {j p} (ha : QE X C a va) : QT X C (.Compare a [.Is] [.Constant .none j p] pos) (vB (vIsN id va)) := by
  obtain ⟨ta, pa, sa⟩ := ha.ex
  exact ⟨_, pt_cmp (pc_isN pa), snd_tB (snd_isN sa)⟩
theorem qt_notN {j p} (ha : QE X C a va) : QT X C (.Compare a [.IsNot] [.Constant .none j p] pos) (vB (vIsN Bool.not va)) := by
  obtain ⟨ta, pa, sa⟩ := ha.ex
  exact ⟨_, pt_cmp (pc_notN pa), snd_tB (snd_notN sa)⟩
/-! ### truth, and, or, not, if -/
theorem qt_val (h : QE X C a va) (he : ∀ whole, isTrue a X.env whole = (do let v ← whole; standAt a.pos; holding [v] (truthy v)) := by intro _; rfl) : QT X C a (vB va) := by
  obtain ⟨ta, pa, sa⟩ := h.ex
  exact ⟨_, pt_val pa he, snd_tB sa⟩
structure QW (X : Cx) (C : Addr) (e : Expr) (v : DT) : Prop where
  ex : ∃ t, PW X e t ∧ SndT ⟨X.K, C⟩ t v
theorem QW.qt {e : Expr} {v : DT} (h : QW X C e v) : QT X C e v := let ⟨t, p, s⟩ := h.ex; ⟨t, p.pt, s⟩
def vAnd (a b : DT) : DT := fun γ M R => a γ M fun k M1 => (k = true → b γ M1 R) ∧ (k = false → R false M1)
def vOr (a b : DT) : DT := fun γ M R => a γ M fun k M1 => (k = true → R true M1) ∧ (k = false → b γ M1 R)
def vNot (a : DT) : DT := fun γ M R => a γ M fun k M1 => R (!k) M1
variable {ua ub : DT} {rest : List Expr}
theorem qw_and1 (ha : QT X C a ua) : QW X C (.BoolOp .And [a] pos) ua := let ⟨t, p, s⟩ := ha.ex; ⟨t, pw_and1 p, s⟩
theorem qw_or1 (ha : QT X C a ua) : QW X C (.BoolOp .Or [a] pos) ua := let ⟨t, p, s⟩ := ha.ex; ⟨t, pw_or1 p, s⟩
theorem snd_and {G : Gx} {ta tb : TT} (sa : SndT G ta ua) (sb : SndT G tb ub) : SndT G (tAnd ta tb) (vAnd ua ub) := fun γ M R σ H Q re h k => sa γ M _ σ H _ re h fun b M1 H1 o1 e1 h1 => by
  cases b with
  | true => rw [if_pos rfl]; exact sb γ M1 R σ H1 Q (re.mk' e1 o1) (h1.1 rfl) fun b2 M2 H2 o2 e2 h2 => k b2 M2 H2 o2 (e1.trans e2) h2
  | false => rw [if_neg Bool.false_ne_true]; exact k _ M1 H1 o1 e1 (h1.2 rfl)
theorem snd_or {G : Gx} {ta tb : TT} (sa : SndT G ta ua) (sb : SndT G tb ub) : SndT G (tOr ta tb) (vOr ua ub) := fun γ M R σ H Q re h k => sa γ M _ σ H _ re h fun b M1 H1 o1 e1 h1 => by
  cases b with
  | true => rw [if_pos rfl]; exact k _ M1 H1 o1 e1 (h1.1 rfl)
  | false => rw [if_neg Bool.false_ne_true]; exact sb γ M1 R σ H1 Q (re.mk' e1 o1) (h1.2 rfl) fun b2 M2 H2 o2 e2 h2 => k b2 M2 H2 o2 (e1.trans e2) h2
theorem qw_and (ha : QT X C a ua) (hb : QW X C (.BoolOp .And (b :: rest) pos) ub) : QW X C (.BoolOp .And (a :: b :: rest) pos) (vAnd ua ub) :=
  let ⟨_, p, s⟩ := ha.ex; let ⟨_, q, u⟩ := hb.ex; ⟨_, pw_and p q, snd_and s u⟩
theorem qw_or (ha : QT X C a ua) (hb : QW X C (.BoolOp .Or (b :: rest) pos) ub) : QW X C (.BoolOp .Or (a :: b :: rest) pos) (vOr ua ub) :=
  let ⟨_, p, s⟩ := ha.ex; let ⟨_, q, u⟩ := hb.ex; ⟨_, pw_or p q, snd_or s u⟩
theorem qt_not (ha : QT X C a ua) : QT X C (.UnaryOp .Not a pos) (vNot ua) := by
  obtain ⟨t, p, s⟩ := ha.ex
  exact ⟨_, pt_not p, fun γ M R σ H Q re h k => s γ M _ σ H _ re h fun b M1 H1 o1 e1 h1 => k _ M1 H1 o1 e1 h1⟩
/-- .. as values (bools) -/
def vAndV (a b : DE) : DE := fun γ M R => a γ M fun d M1 => match d with
  | .bl k => (k = true → b γ M1 R) ∧ (k = false → R (.bl false) M1)
  | _ => False
def vOrV (a b : DE) : DE := fun γ M R => a γ M fun d M1 => match d with
  | .bl k => (k = true → R (.bl true) M1) ∧ (k = false → b γ M1 R)
  | _ => False
def vNotV (a : DE) : DE := fun γ M R => a γ M fun d M1 => match d with
  | .bl k => R (.bl (!k)) M1
  | _ => False
theorem q_one {op} (h : QE X C a va) : QE X C (.BoolOp op [a] pos) va := let ⟨_, p, s⟩ := h.ex; ⟨_, pe_one p, s⟩
theorem q_and (ha : QE X C a va) (hb : QE X C (.BoolOp .And (b :: rest) pos) vb) : QE X C (.BoolOp .And (a :: b :: rest) pos) (vAndV va vb) := by
  obtain ⟨ta, pa, sa⟩ := ha.ex
  obtain ⟨tb, pb, sb⟩ := hb.ex
  refine ⟨_, pe_and pa pb, fun γ M R σ H Q re h k => sa γ M _ σ H _ re h fun d M1 x H1 o1 i1 e1 h1 => ?_⟩
  cases d with
  | bl c =>
    unfold Is at i1
    refine ⟨c, i1, ?_⟩
    cases c with
    | true => rw [if_pos rfl]; exact sb γ M1 R σ H1 Q (re.mk' e1 o1) (h1.1 rfl) fun d2 M2 x2 H2 o2 i2 e2 h2 => k d2 M2 x2 H2 o2 i2 (e1.trans e2) h2
    | false => rw [if_neg Bool.false_ne_true]; exact k _ M1 _ H1 o1 is_bl e1 (h1.2 rfl)
  | _ => exact False.elim h1
theorem q_or (ha : QE X C a va) (hb : QE X C (.BoolOp .Or (b :: rest) pos) vb) : QE X C (.BoolOp .Or (a :: b :: rest) pos) (vOrV va vb) := by
  obtain ⟨ta, pa, sa⟩ := ha.ex
  obtain ⟨tb, pb, sb⟩ := hb.ex
  refine ⟨_, pe_or pa pb, fun γ M R σ H Q re h k => sa γ M _ σ H _ re h fun d M1 x H1 o1 i1 e1 h1 => ?_⟩
  cases d with
  | bl c =>
    unfold Is at i1
    refine ⟨c, i1, ?_⟩
    cases c with
    | false => rw [if_neg Bool.false_ne_true]; exact sb γ M1 R σ H1 Q (re.mk' e1 o1) (h1.2 rfl) fun d2 M2 x2 H2 o2 i2 e2 h2 => k d2 M2 x2 H2 o2 i2 (e1.trans e2) h2
    | true => rw [if_pos rfl]; exact k _ M1 _ H1 o1 is_bl e1 (h1.1 rfl)
  | _ => exact False.elim h1
theorem q_not (ha : QE X C a va) : QE X C (.UnaryOp .Not a pos) (vNotV va) := by
  obtain ⟨ta, pa, sa⟩ := ha.ex
  refine ⟨_, pe_not pa, fun γ M R σ H Q re h k => sa γ M _ σ H _ re h fun d M1 x H1 o1 i1 e1 h1 => ?_⟩
  cases d with
  | bl c => unfold Is at i1; exact ⟨c, i1, k _ M1 _ H1 o1 is_bl e1 h1⟩
  | _ => exact False.elim h1
def vIte (t : DT) (a b : DE) : DE := fun γ M R => t γ M fun k M1 => (k = true → a γ M1 R) ∧ (k = false → b γ M1 R)
theorem q_ite {e : Expr} (hc : QT X C e ua) (ha : QE X C a va) (hb : QE X C b vb) : QE X C (.IfExp e a b pos) (vIte ua va vb) := by
  obtain ⟨tc, pc, sc⟩ := hc.ex
  obtain ⟨ta, pa, sa⟩ := ha.ex
  obtain ⟨tb, pb, sb⟩ := hb.ex
  refine ⟨_, pe_ifExp pc pa pb, fun γ M R σ H Q re h k => sc γ M _ σ H _ re h fun c M1 H1 o1 e1 h1 => ?_⟩
  cases c with
  | true => rw [if_pos rfl]; exact sa γ M1 R σ H1 Q (re.mk' e1 o1) (h1.1 rfl) fun d2 M2 x2 H2 o2 i2 e2 h2 => k d2 M2 x2 H2 o2 i2 (e1.trans e2) h2
  | false => rw [if_neg Bool.false_ne_true]; exact sb γ M1 R σ H1 Q (re.mk' e1 o1) (h1.2 rfl) fun d2 M2 x2 H2 o2 i2 e2 h2 => k d2 M2 x2 H2 o2 i2 (e1.trans e2) h2
end
end Dl
namespace Dl
open PySem L2
/-! ### built-in functions -/
abbrev DC := List D → Mem → DR → Prop
def SndC (G : Gx) (r : List V → Hp → VK → Prop) (o : DC) : Prop := ∀ (ds : List D) (M : Mem) (R : DR) (H : Hp) (xs : List V) (Q : VK), Own G M H → IsL G M H ds xs → o ds M R →
  (∀ d M' x H', Own G M' H' → Is G M' H' d x → Ext M M' H H' → R d M' → Q x H') → r xs H Q
def vCB (o : DC) (a : DA) : DE := fun γ M R => a γ M fun ds M1 => o ds M1 R
section
variable {X : Cx} {C : Addr} {x : Str} {p pos : Pos} {e : Expr} {es : List Expr} {va : DA} {id T : String}
theorem isL1 {G : Gx} {M : Mem} {H : Hp} {d : D} {xs : List V} (h : IsL G M H [d] xs) : ∃ v, xs = [v] ∧ Is G M H d v := by
  match xs, h with
  | [v], h => unfold IsL at h; exact ⟨v, rfl, h.1⟩
  | [], h => unfold IsL at h; exact h.elim
  | _ :: _ :: _, h => unfold IsL at h; have h2 := h.2; unfold IsL at h2; exact h2.elim
theorem isL2 {G : Gx} {M : Mem} {H : Hp} {d f : D} {xs : List V} (h : IsL G M H [d, f] xs) : ∃ v u, xs = [v, u] ∧ Is G M H d v ∧ Is G M H f u := by
  match xs, h with
  | v :: r, h =>
    unfold IsL at h
    obtain ⟨u, e, i⟩ := isL1 h.2
    exact ⟨v, u, by rw [e], h.1, i⟩
  | [], h => unfold IsL at h; exact h.elim
structure BQ (X : Cx) (C : Addr) (f : Value) (o : DC) : Prop where
  ex : ∃ r, CallR X f r ∧ SndC ⟨X.K, C⟩ r o
theorem snd_cb {G : Gx} {r : List V → Hp → VK → Prop} {o : DC} {ta : TA} (sa : SndA G ta va) (so : SndC G r o) : Snd G (tCB r ta) (vCB o va) := fun γ M R σ H Q re h k =>
  sa γ M _ σ H _ re h fun ds M1 xs H1 o1 i1 e1 h1 => so ds M1 R H1 xs Q o1 i1 h1 fun d M2 y H2 o2 i2 e2 h2 => k d M2 y H2 o2 i2 (e1.trans e2) h2
theorem q_cb {o : DC} (hc : BQ X C (.builtin id) o) (hg : Gl X x) (hm : X.mg x = none) (hv : bootBuiltins x = some (.builtin id)) (ha : QA X C (e :: es) va) (hn : x ≠ "__name__" := by decide) (hdb : (x == ("__debug__" : Str)) = false := by decide)
    (he : starEach (e :: es) X.env = (false, eval e X.env) :: starEach es X.env := by rfl) (hpl : (backTo pos (starEach es X.env)).any (·.1) = false := by rfl) : QE X C (.Call (.Name x p) (e :: es) [] pos) (vCB o va) := by
  obtain ⟨r, pr, sr⟩ := hc.ex
  obtain ⟨ta, pa, sa⟩ := ha.ex
  exact ⟨_, pe_callB pr hg hm hv pa hn hdb he hpl, snd_cb sa sr⟩
theorem q_ct {o : DC} (hc : BQ X C (.type T) o) (hg : Gl X x) (hm : X.mg x = none) (hv : bootBuiltins x = some (.type T)) (ha : QA X C (e :: es) va) (hn : x ≠ "__name__" := by decide) (hdb : (x == ("__debug__" : Str)) = false := by decide)
    (he : starEach (e :: es) X.env = (false, eval e X.env) :: starEach es X.env := by rfl) (hpl : (backTo pos (starEach es X.env)).any (·.1) = false := by rfl) : QE X C (.Call (.Name x p) (e :: es) [] pos) (vCB o va) := by
  obtain ⟨r, pr, sr⟩ := hc.ex
  obtain ⟨ta, pa, sa⟩ := ha.ex
  exact ⟨_, pe_callTy pr hg hm hv pa hn hdb he hpl, snd_cb sa sr⟩
/-- one int in -/
def oC1 (g : Int → D) : DC := fun ds M R => match ds with
  | [.int i] => R (g i) M
  | _ => False
def oC2 (g : Int → Int → D) : DC := fun ds M R => match ds with
  | [.int i, .int j] => R (g i j) M
  | _ => False
theorem sndC1 {G : Gx} {g : Int → D} {gv : Int → V} (hg : ∀ i (M : Mem) (H : Hp), Is G M H (g i) (gv i)) : SndC G (fun xs H Q => ∃ i, xs = [.int i] ∧ Q (gv i) H) (oC1 g) := fun ds M R H xs Q o i1 h k => by
  match ds, h with
  | [.int i], h =>
    obtain ⟨v, e, q⟩ := isL1 i1
    unfold Is at q
    exact ⟨i, by rw [e, q], k _ M _ H o (hg i M H) Ext.refl h⟩
theorem sndC2 {G : Gx} {g : Int → Int → D} {gv : Int → Int → V} (hg : ∀ i j (M : Mem) (H : Hp), Is G M H (g i j) (gv i j)) : SndC G (fun xs H Q => ∃ i j, xs = [.int i, .int j] ∧ Q (gv i j) H) (oC2 g) := fun ds M R H xs Q o i1 h k => by
  match ds, h with
  | [.int i, .int j], h =>
    obtain ⟨v, u, e, q, q2⟩ := isL2 i1
    unfold Is at q q2
    exact ⟨i, j, by rw [e, q, q2], k _ M _ H o (hg i j M H) Ext.refl h⟩
theorem b_abs : BQ X C (.builtin "abs") (oC1 fun i => .int (if i < 0 then -i else i)) := ⟨_, call_abs, sndC1 fun _ _ _ => is_int⟩
theorem b_max2 (hc : X.calm = true := by rfl) : BQ X C (.builtin "max") (oC2 fun i j => .int (if j > i then j else i)) := ⟨_, call_max2 hc, sndC2 fun _ _ _ _ => is_int⟩
theorem b_min2 (hc : X.calm = true := by rfl) : BQ X C (.builtin "min") (oC2 fun i j => .int (if j < i then j else i)) := ⟨_, call_min2 hc, sndC2 fun _ _ _ _ => is_int⟩
def oInt : DC := fun ds M R => match ds with
  | [.int i] => R (.int i) M
  | [.bl k] => R (.int (if k then 1 else 0)) M
  | _ => False
theorem b_int : BQ X C (.type "int") oInt := ⟨_, call_int1, fun ds M R H xs Q o i1 h k => by
  match ds, h with
  | [.int i], h =>
    obtain ⟨v, e, q⟩ := isL1 i1
    unfold Is at q
    exact .inl ⟨i, by rw [e, q], k _ M _ H o is_int Ext.refl h⟩
  | [.bl i], h =>
    obtain ⟨v, e, q⟩ := isL1 i1
    unfold Is at q
    exact .inr ⟨i, by rw [e, q], k _ M _ H o is_int Ext.refl h⟩⟩
def oLen : DC := fun ds M R => match ds with
  | [.str y] => y.length ≤ sizeLine ∧ R (.int y.length) M
  | [d] => (match seqI M d with
    | some xs => R (.int xs.length) M
    | none => False)
  | _ => False
theorem len_seq {G : Gx} {M : Mem} {H : Hp} {d : D} {v : V} {ds : List D} (o : Own G M H) (h : Is G M H d v) (e : seqI M d = some ds) : LenV G.K v H ds.length := by
  obtain ⟨a, xs, e1, l, s⟩ := seq_at o h e
  rw [e1]
  rcases s with ⟨_, s⟩ | ⟨_, s⟩
  · exact .inl ⟨xs, s, l.len⟩
  · exact .inr ⟨xs, s, l.len⟩
theorem b_len : BQ X C (.builtin "len") oLen := ⟨_, call_len, fun ds M R H xs Q o i1 h k => by
  match ds, h with
  | d1 :: _ :: _, h => cases d1 <;> exact h.elim
  | [d], h =>
    obtain ⟨v, e, q⟩ := isL1 i1
    cases d with
    | str y =>
      unfold Is at q
      exact ⟨v, y.length, e, by rw [q]; exact ⟨h.1, rfl⟩, k _ M _ H o is_int Ext.refl h.2⟩
    | _ =>
      unfold oLen at h
      simp only at h
      split at h
      · rename_i ys e2
        exact ⟨v, ys.length, e, len_seq o q e2, k _ M _ H o is_int Ext.refl h⟩
      · exact h.elim⟩
/-- all ints -/
def intsD : List D → Option (List Int)
  | [] => some []
  | .int i :: r => (intsD r).map (i :: ·)
  | _ => none
theorem intsD_map (ns : List Int) : intsD (ns.map D.int) = some ns := by
  induction ns with
  | nil => rfl
  | cons n r ih => show (intsD (r.map D.int)).map (n :: ·) = _; rw [ih]; rfl
theorem intsD_eq : ∀ {ds : List D} {ns : List Int}, intsD ds = some ns → ds = ns.map D.int
  | [], ns, h => by cases h; rfl
  | .int i :: r, ns, h => by
    have h' : (intsD r).map (i :: ·) = some ns := h
    cases e : intsD r with
    | none => rw [e] at h'; cases h'
    | some ms => rw [e] at h'; cases h'; rw [intsD_eq e]; rfl
theorem isL_intsV {G : Gx} {M : Mem} {H : Hp} : ∀ {ns : List Int} {xs : List V}, IsL G M H (ns.map D.int) xs → xs = ns.map V.int
  | [], [], _ => rfl
  | [], _ :: _, h => by unfold List.map IsL at h; exact h.elim
  | _ :: _, [], h => by rw [List.map_cons] at h; unfold IsL at h; exact h.elim
  | n :: ns, v :: vs, h => by
    rw [List.map_cons] at h
    unfold IsL at h
    have h1 := h.1
    unfold Is at h1
    rw [h1, isL_intsV h.2]; rfl
def intsOf (M : Mem) (d : D) : Option (List Int) := match isTup d, seqI M d with
  | false, some ds => intsD ds
  | _, _ => none
theorem ints_at {G : Gx} {M : Mem} {H : Hp} {d : D} {v : V} {ns : List Int} (o : Own G M H) (h : Is G M H d v) (e : intsOf M d = some ns) : ∃ a, v = .ref a ∧ SqL G.K H a (ns.map V.int) := by
  unfold intsOf at e
  cases q : isTup d with
  | true => rw [q] at e; cases e
  | false =>
    cases q2 : seqI M d with
    | none => rw [q, q2] at e; cases e
    | some ds =>
      rw [q, q2] at e
      have e' : intsD ds = some ns := e
      obtain ⟨a, xs, e1, l, s⟩ := seq_at o h q2
      rw [intsD_eq e'] at l
      rw [← isL_intsV l]
      rcases s with ⟨_, s⟩ | ⟨z, _⟩
      · exact ⟨a, e1, s⟩
      · rw [q] at z; cases z
def oSum : DC := fun ds M R => match ds with
  | [d] => (match intsOf M d with
    | some ns => R (.int ns.sum) M
    | none => False)
  | _ => False
theorem b_sum (hc : X.calm = true := by rfl) : BQ X C (.builtin "sum") oSum := ⟨_, cr_sum hc, fun ds M R H xs Q o i1 h k => by
  match ds, h with
  | [d], h =>
    obtain ⟨v, e, q⟩ := isL1 i1
    unfold oSum at h
    simp only at h
    split at h
    · rename_i ns e2
      obtain ⟨a, e3, s⟩ := ints_at o q e2
      exact ⟨a, ns, by rw [e, e3], s, k _ M _ H o is_int Ext.refl h⟩
    · exact h.elim⟩
/-! ### isinstance -/
inductive Ty where | non | bl | int | str | tup | lst | dct
def Ty.nm : Ty → String
  | .non => "NoneType" | .bl => "bool" | .int => "int" | .str => "str" | .tup => "tuple" | .lst => "list" | .dct => "dict"
def Ty.sub : Ty → Ty → Bool
  | .non, .non => true | .bl, .bl => true | .bl, .int => true | .int, .int => true | .str, .str => true | .tup, .tup => true | .lst, .lst => true | .dct, .dct => true
  | _, _ => false
theorem kit_sub (a b : Ty) : kitB a.nm b.nm = some (a.sub b) := by cases a <;> cases b <;> decide +kernel
def tyD : D → Option Ty
  | .non => some .non | .bl _ => some .bl | .int _ => some .int | .str _ => some .str | .tup _ => some .tup | .lst _ => some .lst | .dct _ _ => some .dct
  | _ => none
/-- .. of owned things by the memory -/
def tyM (M : Mem) : D → Option Ty
  | .own a => match M a with
    | some (.lst _) => some .lst
    | some (.dct _ _) => some .dct
    | _ => none
  | d => tyD d
theorem tyD_ok {G : Gx} {M : Mem} {H : Hp} {d : D} {v : V} {t : Ty} (o : Own G M H) (h : Is G M H d v) (e : tyD d = some t) : TyX G.K H v (.type t.nm) := by
  cases d with
  | non => cases e; unfold Is at h; rw [h]; exact .base .non
  | bl b => cases e; unfold Is at h; rw [h]; exact .base (.bl b)
  | int b => cases e; unfold Is at h; rw [h]; exact .base (.int b)
  | str b => cases e; unfold Is at h; rw [h]; exact .base (.str b)
  | tup b => cases e; unfold Is at h; obtain ⟨a, xs, e1, _, ha, _⟩ := h; rw [e1]; exact .base (.tup ha)
  | lst b => cases e; unfold Is at h; obtain ⟨a, xs, e1, _, ha, _⟩ := h; rw [e1]; exact .base (.lst ha)
  | dct ks ds => cases e; unfold Is at h; obtain ⟨a, xs, e1, _, ha, _⟩ := h; rw [e1]; exact .base (.dK ha)
  | _ => cases e
theorem tyM_ok {G : Gx} {M : Mem} {H : Hp} {d : D} {v : V} {t : Ty} (o : Own G M H) (h : Is G M H d v) (e : tyM M d = some t) : TyX G.K H v (.type t.nm) := by
  cases d with
  | own a =>
    unfold Is at h
    rw [h.1]
    unfold tyM at e
    simp only at e
    split at e
    · rename_i ds q
      cases e
      obtain ⟨_, xs, ha, _⟩ := o a _ q
      exact .base (.lst ha)
    · rename_i ks ds q
      cases e
      obtain ⟨_, _, xs, ha, _⟩ := o a _ q
      exact .base (.dK ha)
    · cases e
  | _ => exact tyD_ok o h e
theorem tyM_of {M : Mem} {d : D} {t : Ty} (h : tyD d = some t) : tyM M d = some t := by
  cases d with
  | own a => cases h
  | _ => exact h
def vIsi (T : Ty) (a : DE) : DE := fun γ M R => a γ M fun d M1 => match tyM M1 d with
  | some t => R (.bl (t.sub T)) M1
  | none => False
theorem q_isi (T : Ty) {y : Str} {v : DE} {p2 : Pos} (ha : QE X C e v) (hg : Gl X x) (hm : X.mg x = none) (hv : bootBuiltins x = some (.builtin "isinstance")) (hg2 : Gl X y) (hm2 : X.mg y = none) (hv2 : bootBuiltins y = some (.type T.nm)) (hn : x ≠ "__name__" := by decide) (hdb : (x == ("__debug__" : Str)) = false := by decide)
    (hn2 : y ≠ "__name__" := by decide) (hdb2 : (y == ("__debug__" : Str)) = false := by decide)
    (he : starEach (e :: [.Name y p2]) X.env = (false, eval e X.env) :: starEach [.Name y p2] X.env := by rfl) (he2 : starEach [.Name y p2] X.env = (false, eval (.Name y p2) X.env) :: starEach [] X.env := by rfl) (hpl : (backTo pos (starEach [.Name y p2] X.env)).any (·.1) = false := by rfl) : QE X C (.Call (.Name x p) [e, .Name y p2] [] pos) (vIsi T v) := by
  obtain ⟨ta, pa, sa⟩ := ha.ex
  refine ⟨_, pe_callB call_isi hg hm hv (pa_cons pa (pa_cons (pe_bltn (v := .ty T.nm) hg2 hm2 hv2 rfl hn2 hdb2) pa_nil he2) he) hn hdb he hpl, fun γ M R σ H Q re h k => sa γ M _ σ H _ re h fun d M1 x1 H1 o1 i1 e1 h1 => ?_⟩
  cases q : tyM M1 d with
  | none => rw [q] at h1; exact h1.elim
  | some t =>
    rw [q] at h1
    exact ⟨x1, .ty T.nm, _, _, t.sub T, rfl, .ty _, tyM_ok o1 i1 q, kit_ty (kit_sub t T), k _ M1 _ H1 o1 is_bl e1 h1⟩
/-! ### bit_length -/
def vBits (a : DE) : DE := fun γ M R => a γ M fun d M1 => match d with
  | .int i => R (.int (Builtin.Int.intBits i : Nat)) M1
  | _ => False
theorem q_bits {v : DE} {apos : Pos} (ha : QE X C e v) (hbase : attributeBase e "bit_length" X.env (eval e X.env) = eval e X.env := by rfl) (hline : (apos.endLine == pos.line) = true := by rfl) : QE X C (.Call (.Attribute e "bit_length" apos) [] [] pos) (vBits v) := by
  obtain ⟨ta, pa, sa⟩ := ha.ex
  refine ⟨_, pe_bits pa hbase hline, fun γ M R σ H Q re h k => sa γ M _ σ H _ re h fun d M1 x H1 o1 i1 e1 h1 => ?_⟩
  cases d with
  | int i => unfold Is at i1; exact ⟨i, i1, k _ M1 _ H1 o1 is_int e1 h1⟩
  | _ => exact False.elim h1
end
/-! ### list(..), list(range(..)) -/
section
variable {X : Cx} {C : Addr} {x : Str} {p pos : Pos} {e : Expr} {es : List Expr} {va : DA} {id T : String}
def oList : DC := fun ds M R => match ds with
  | [d] => (match seqI M d with
    | some xs => R (.lst xs) M
    | none => False)
  | _ => False
def oListO : DC := fun ds M R => match ds with
  | [d] => (match seqI M d with
    | some xs => pureL xs = true ∧ ∀ p, M p = none → R (.own p) (mset M p (.lst xs))
    | none => False)
  | _ => False
theorem b_list : BQ X C (.type "list") oList := ⟨_, call_list_of, fun ds M R H xs Q o i1 h k => by
  match ds, h with
  | [d], h =>
    obtain ⟨v, e, q⟩ := isL1 i1
    unfold oList at h
    simp only at h
    split at h
    · rename_i ys e2
      obtain ⟨a, us, e3, l, s⟩ := seq_at o q e2
      refine ⟨a, us, by rw [e, e3], ?_, fun n hn => k _ M _ _ (o.new hn) (new_lst o hn l) (Ext.new hn) h⟩
      rcases s with ⟨_, s⟩ | ⟨_, s⟩
      · exact .inl s
      · exact .inr s
    · exact h.elim⟩
theorem b_listO : BQ X C (.type "list") oListO := ⟨_, call_list_of, fun ds M R H xs Q o i1 h k => by
  match ds, h with
  | [d], h =>
    obtain ⟨v, e, q⟩ := isL1 i1
    unfold oListO at h
    simp only at h
    split at h
    · rename_i ys e2
      obtain ⟨a, us, e3, l, s⟩ := seq_at o q e2
      refine ⟨a, us, by rw [e, e3], ?_, fun n hn => k _ (mset M n (.lst ys)) _ _ (o.newOwn hn h.1 l) is_own (Ext.newOwn hn) (h.2 n (o.fresh hn))⟩
      rcases s with ⟨_, s⟩ | ⟨_, s⟩
      · exact .inl s
      · exact .inr s
    · exact h.elim⟩
end
/-! ### what a def promises, over data -/
/-- an exception as a datum: its class, its field -/
structure XD where
  cls : Str
  fld : D
abbrev DX := XD → Mem → Prop
abbrev DSp := List D → Mem → DR → DX → Prop
def noX : DX := fun _ _ => False
def spD (G : Gx) (n : Nat) (S : DSp) : Sp := fun vs H Q _ => ∃ (ds : List D) (M : Mem) (R : DR), ds.length = n ∧ IsL G M H ds vs ∧ Own G M H ∧ S ds M R noX ∧
  ∀ d M' x H', Own G M' H' → Is G M' H' d x → Ext M M' H H' → R d M' → Q x H'
def vCall (n : Nat) (S : DSp) (dd : List D) (a : DA) : DE := fun γ M R => a γ M fun ds M1 => (ds ++ dd).length = n ∧ S (ds ++ dd) M1 R noX
/-- constants as data: flat -/
def constV : D → Option V
  | .non => some .non
  | .bl b => some (.bl b)
  | .int i => some (.int i)
  | .str x => some (.str x)
  | _ => none
def constL : List D → Option (List V)
  | [] => some []
  | d :: r => match constV d, constL r with
    | some v, some vs => some (v :: vs)
    | _, _ => none
theorem constV_ok {G : Gx} {M : Mem} {H : Hp} {d : D} {v : V} (h : constV d = some v) : Is G M H d v := by
  cases d with
  | non => cases h; exact is_non
  | bl b => cases h; exact is_bl
  | int b => cases h; exact is_int
  | str b => cases h; exact is_str
  | _ => cases h
theorem constL_ok {G : Gx} {M : Mem} {H : Hp} : ∀ {ds : List D} {vs : List V}, constL ds = some vs → IsL G M H ds vs
  | [], _, h => by cases h; exact IsL.nil
  | d :: r, vs, h => by
    unfold constL at h
    cases e : constV d with
    | none => rw [e] at h; cases h
    | some v =>
      cases e2 : constL r with
      | none => rw [e, e2] at h; cases h
      | some us => rw [e, e2] at h; cases h; exact IsL.cons (constV_ok e) (constL_ok e2)
theorem snd_call {G : Gx} {n : Nat} {S : DSp} {dd : List D} {dv : List V} {va : DA} {ta : TA} (hd : constL dd = some dv) (sa : SndA G ta va) : Snd G (tCall (spD G n S) dv E0 ta) (vCall n S dd va) := fun γ M R σ H Q re h k =>
  sa γ M _ σ H _ re h fun ds M1 xs H1 o1 i1 e1 h1 => ⟨ds ++ dd, M1, R, h1.1, i1.append (constL_ok hd), o1, h1.2, fun d M2 y H2 o2 i2 e2 h2 => k d M2 y H2 o2 i2 (e1.trans e2) h2⟩
section
variable {X : Cx} {C : Addr} {k n : Nat} {f : Addr} {fd : FuncData} {ps : List Str} {S : DSp} {dd : List D} {dv : List V} {ds : List Value} {x : Str} {p pos : Pos} {e : Expr} {es : List Expr} {va : DA}
/-- f(e, ..) -/
theorem q_call (F : FnOk X.prog X.w X.K X.mg X.base CX0 k f fd ps (spD ⟨X.K, C⟩ n S)) (hr : Room k X.A) (hm : X.mg x = some (.ref f)) (hk : PySem.W.keepIn X.K (.ref f) = true) (hb : Binds X.K fd ps ds) (hd : Vals dv ds) (hdd : constL dd = some dv)
    (ha : QA X C (e :: es) va) (hg : Gl X x := by rfl) (hdb : (x == ("__debug__" : Str)) = false := by decide) (he : starEach (e :: es) X.env = (false, eval e X.env) :: starEach es X.env := by rfl) (hpl : (backTo pos (starEach es X.env)).any (·.1) = false := by rfl) :
    QE X C (.Call (.Name x p) (e :: es) [] pos) (vCall n S dd va) := by
  obtain ⟨ta, pa, sa⟩ := ha.ex
  exact ⟨_, pe_call F hr hg hm hk hb hd pass0 pa hdb he hpl, snd_call hdd sa⟩
/-- f(e, .., k = v, ..): the keywords' values behind the others, in the parameters' order, then defaults -/
def vCallK (n np nk : Nat) (S : DSp) (pick : List D → List D → List D) (a kw : DA) : DE := fun γ M R => a γ M fun ds M1 => kw γ M1 fun zs M2 => ds.length = np ∧ zs.length = nk ∧ (pick ds zs).length = n ∧ S (pick ds zs) M2 R noX
structure QK (X : Cx) (C : Addr) (kws : List Keyword) (v : DA) : Prop where
  ex : ∃ t, PK X kws t ∧ SndA ⟨X.K, C⟩ t v
theorem qk_nil : QK X C [] vNil := ⟨_, pk_nil, fun _ M R _ H Q r h k => k _ M _ H r.ow IsL.nil Ext.refl h⟩
theorem qk_cons {kws : List Keyword} {v : DE} {vr : DA} {nm kpos} (ha : QE X C e v) (hr : QK X C kws vr) : QK X C (⟨nm, e, kpos⟩ :: kws) (vCons v vr) := by
  obtain ⟨ta, pa, sa⟩ := ha.ex
  obtain ⟨tr, pr, sr⟩ := hr.ex
  exact ⟨_, pk_cons pa pr, snd_cons sa sr⟩
theorem q_callK {np : Nat} {kws : List Keyword} {ks : List Str} {g : List Value → List Value → List Value} {gV : List V → List V → List V} {pick : List D → List D → List D} {vk : DA} (F : FnOk X.prog X.w X.K X.mg X.base CX0 k f fd ps (spD ⟨X.K, C⟩ n S)) (hr : Room k X.A) (hm : X.mg x = some (.ref f)) (hk : PySem.W.keepIn X.K (.ref f) = true)
    (hb : KBn X.K fd ps np ks g gV) (hp : ∀ (M : Mem) (H : Hp) (ds zs : List D) (vs us : List V), IsL ⟨X.K, C⟩ M H ds vs → IsL ⟨X.K, C⟩ M H zs us → IsL ⟨X.K, C⟩ M H (pick ds zs) (gV vs us))
    (ha : QA X C (e :: es) va) (hkw : QK X C kws vk) (hg : Gl X x := by rfl) (hall : (backToKw pos (keywordEach kws X.env)).all (·.1.isSome) = true := by rfl) (hks : (backToKw pos (keywordEach kws X.env)).filterMap (·.1) = ks := by rfl)
    (hdb : (x == ("__debug__" : Str)) = false := by decide) (he : starEach (e :: es) X.env = (false, eval e X.env) :: starEach es X.env := by rfl)
    (hpl : ((backTo pos (starEach (e :: es) X.env)).any (·.1) || (backToKw pos (keywordEach kws X.env)).any (·.1.isNone)) = false := by rfl) :
    QE X C (.Call (.Name x p) (e :: es) kws pos) (vCallK n np ks.length S pick va vk) := by
  obtain ⟨ta, pa, sa⟩ := ha.ex
  obtain ⟨tk, pk, sk⟩ := hkw.ex
  refine ⟨_, pe_callN F hr hg hm hk hb pass0 pa pk hall hks hdb he hpl, fun γ M R σ H Q re h kk => sa γ M _ σ H _ re h fun ds M1 xs H1 o1 i1 e1 h1 => sk γ M1 _ σ H1 _ (re.mk' e1 o1) h1 fun zs M2 us H2 o2 i2 e2 h2 => ?_⟩
  obtain ⟨l1, l2, l3, hs⟩ := h2
  have i1' := IsL.ext e2 ds xs i1
  exact ⟨by rw [← i1.len]; exact l1, by rw [← i2.len]; exact l2, pick ds zs, M2, R, l3, hp M2 H2 ds zs xs us i1' i2, o2, hs, fun d M3 y H3 o3 i3 e3 h3 => kk d M3 y H3 o3 i3 ((e1.trans e2).trans e3) h3⟩
end
end Dl
namespace Dl
open PySem L2
/-! ### readings by data, as readings -/
def lift (G : Gx) (v : DE) : TE := fun σ H Q => ∃ (γ : Gm) (M : Mem) (R : DR), Rel G M γ σ H ∧ v γ M R ∧ ∀ d M' x H', Own G M' H' → Is G M' H' d x → Ext M M' H H' → R d M' → Q x H'
def liftT (G : Gx) (v : DT) : TT := fun σ H Q => ∃ (γ : Gm) (M : Mem) (R : Bool → Mem → Prop), Rel G M γ σ H ∧ v γ M R ∧ ∀ b M' H', Own G M' H' → Ext M M' H H' → R b M' → Q b H'
theorem QE.lift {X : Cx} {C : Addr} {e : Expr} {v : DE} (h : QE X C e v) : PE X e (Dl.lift ⟨X.K, C⟩ v) := by
  obtain ⟨t, p, s⟩ := h.ex
  exact ⟨fun pins s0 σ H Q I ⟨γ, M, R, re, hv, k⟩ => p.run pins s0 σ H Q I (s γ M R σ H Q re hv k)⟩
theorem QT.lift {X : Cx} {C : Addr} {e : Expr} {v : DT} (h : QT X C e v) : PT X e (liftT ⟨X.K, C⟩ v) := by
  obtain ⟨t, p, s⟩ := h.ex
  exact ⟨fun pins s0 σ H Q I ⟨γ, M, R, re, hv, k⟩ => p.run pins s0 σ H Q I (s γ M R σ H Q re hv k)⟩
/-! ### exceptions -/
/-- a class without a field -/
def noFld (c : Str) : Bool := c == "NotRising" || c == "NothingToUndo"
/-- what flies, as a datum: its class, its dict -/
def XIs (G : Gx) (M : Mem) (H : Hp) (x : XD) (cls : Value) (d : Option Addr) : Prop :=
  cls = .ref (He.ga G.K x.cls) ∧ PySem.W.exmOne G.K cls (.ref (He.ga G.K "FourTestsError")) = some true ∧
    ((noFld x.cls = true ∧ d = none) ∨ (noFld x.cls = false ∧ ∃ dd u, d = some dd ∧ M dd = none ∧ H dd = some (.xd [(fldN x.cls, u)]) ∧ Is G M H x.fld u))
/-- the weakest wish of a context -/
def wX (X : Cx) : WX := fun cls d σ H => ∀ (u : Value) (s' : Shared) (a : Addr) (B : Heap) (sI : Shared) (pins : List (Addr × Obj)), u = .ref a → Inv X pins σ H sI → (∀ b o, sI.heap.get? b = some o → b ∉ frs X.stack → B.get? b = some o) → sI.heap.UpToSlots s'.heap →
  Sky B X.stack a (Zc cls d) X.env.locals s'.heap → H a = none → s'.os = sI.os → PyProof.Rows.AllBare s'.gens → X.xe u s'
theorem takes_wX {X : Cx} : Takes X (wX X) := fun u s' ⟨a, B, sI, pins, σ, H, cls, d, e, I, nb, up, sky, na, os, ag, w⟩ => w u s' a B sI pins e I nb up sky na os ag
theorem wX_of {X : Cx} {W : WX} (tk : Takes X W) {cls : Value} {d : Option Addr} {σ : St} {H : Hp} (h : W cls d σ H) : wX X cls d σ H := fun u s' a B sI pins e I nb up sky na os ag => tk u s' ⟨a, B, sI, pins, σ, H, cls, d, e, I, nb, up, sky, na, os, ag, h⟩
/-! ### statements -/
structure DEnds where
  nx : Gm → Mem → Prop
  rt : DR
  bk : Gm → Mem → Prop := fun _ _ => False
  ct : Gm → Mem → Prop := fun _ _ => False
  xx : Gm → XD → Mem → Prop := fun _ _ _ => False
abbrev DS := DEnds → Gm → Mem → Prop
structure Lk (X : Cx) (C : Addr) (M : Mem) (H : Hp) (Ed : DEnds) (E : Ends) : Prop where
  nx : ∀ γ M' σ H', Rel ⟨X.K, C⟩ M' γ σ H' → Ext M M' H H' → Ed.nx γ M' → E.nx σ H'
  rt : ∀ d M' x H', Own ⟨X.K, C⟩ M' H' → Is ⟨X.K, C⟩ M' H' d x → Ext M M' H H' → Ed.rt d M' → E.rt x H'
  bk : ∀ γ M' σ H', Rel ⟨X.K, C⟩ M' γ σ H' → Ext M M' H H' → Ed.bk γ M' → E.bk σ H'
  ct : ∀ γ M' σ H', Rel ⟨X.K, C⟩ M' γ σ H' → Ext M M' H H' → Ed.ct γ M' → E.ct σ H'
  xx : ∀ γ M' σ H' xd cls d, Rel ⟨X.K, C⟩ M' γ σ H' → XIs ⟨X.K, C⟩ M' H' xd cls d → Ext M M' H H' → Ed.xx γ xd M' → wX X cls d σ H'
theorem Lk.ext {X : Cx} {C : Addr} {M M1 : Mem} {H H1 : Hp} {Ed : DEnds} {E : Ends} (l : Lk X C M H Ed E) (x : Ext M M1 H H1) : Lk X C M1 H1 Ed E :=
  ⟨fun γ M' σ H' r e => l.nx γ M' σ H' r (x.trans e), fun d M' v H' o i e => l.rt d M' v H' o i (x.trans e), fun γ M' σ H' r e => l.bk γ M' σ H' r (x.trans e), fun γ M' σ H' r e => l.ct γ M' σ H' r (x.trans e), fun γ M' σ H' xd cls d r i e => l.xx γ M' σ H' xd cls d r i (x.trans e)⟩
def SndS (X : Cx) (C : Addr) (t : TS) (v : DS) : Prop := ∀ (Ed : DEnds) (γ : Gm) (M : Mem) (σ : St) (H : Hp) (E : Ends), Rel ⟨X.K, C⟩ M γ σ H → Lk X C M H Ed E → v Ed γ M → t E σ H
structure QS (X : Cx) (C : Addr) (st : Stmt) (v : DS) : Prop where
  ex : ∃ t, PS X st t ∧ SndS X C t v
structure QSs (X : Cx) (C : Addr) (st : List Stmt) (v : DS) : Prop where
  ex : ∃ t, PSs X st t ∧ SndS X C t v
def vNext : DS := fun Ed γ M => Ed.nx γ M
def vSeq (a b : DS) : DS := fun Ed γ M => a { Ed with nx := b Ed } γ M
section
variable {X : Cx} {C : Addr} {st : Stmt} {rest : List Stmt} {v u : DS} {e : Expr} {ve : DE} {pos : Pos}
theorem qss_nil : QSs X C [] vNext := ⟨_, pss_nil, fun Ed γ M σ H E r l h => l.nx γ M σ H r Ext.refl h⟩
theorem snd_seq {t t2 : TS} (s1 : SndS X C t v) (s2 : SndS X C t2 u) : SndS X C (tSeq t t2) (vSeq v u) := fun Ed γ M σ H E r l h =>
  s1 { Ed with nx := u Ed } γ M σ H { E with nx := t2 E } r ⟨fun γ' M' σ' H' r' e' h' => s2 Ed γ' M' σ' H' E r' (l.ext e') h', l.rt, l.bk, l.ct, l.xx⟩ h
theorem qss_cons (h1 : QS X C st v) (h2 : QSs X C rest u) : QSs X C (st :: rest) (vSeq v u) :=
  let ⟨_, p, s⟩ := h1.ex; let ⟨_, p2, s2⟩ := h2.ex; ⟨_, pss_cons p p2, snd_seq s s2⟩
theorem qss_one (h1 : QS X C st v) : QSs X C [st] v := let ⟨_, p, s⟩ := h1.ex; ⟨_, pss_one p, s⟩
theorem qs_pass : QS X C (.Pass pos) vNext := ⟨_, ps_pass, fun Ed γ M σ H E r l h => l.nx γ M σ H r Ext.refl h⟩
def vBreak : DS := fun Ed γ M => Ed.bk γ M
def vCont : DS := fun Ed γ M => Ed.ct γ M
theorem qs_break : QS X C (.Break pos) vBreak := ⟨_, ps_break, fun Ed γ M σ H E r l h => l.bk γ M σ H r Ext.refl h⟩
theorem qs_cont : QS X C (.Continue pos) vCont := ⟨_, ps_continue, fun Ed γ M σ H E r l h => l.ct γ M σ H r Ext.refl h⟩
def vDrop (a : DE) : DS := fun Ed γ M => a γ M fun _ M1 => Ed.nx γ M1
theorem qs_expr (he : QE X C e ve) (hs : swapsWith e none pos.line X.env = pure false := by rfl) : QS X C (.Expr e pos) (vDrop ve) :=
  let ⟨_, p, s⟩ := he.ex; ⟨_, ps_expr p hs, fun Ed γ M σ H E r l h => s γ M _ σ H _ r h fun d M1 x H1 o1 i1 e1 h1 => l.nx γ M1 σ H1 (r.mk' e1 o1) e1 h1⟩
def vRet (a : DE) : DS := fun Ed γ M => a γ M Ed.rt
theorem qs_ret (he : QE X C e ve) : QS X C (.Return (some e) pos) (vRet ve) :=
  let ⟨_, p, s⟩ := he.ex; ⟨_, ps_ret p, fun Ed γ M σ H E r l h => s γ M _ σ H _ r h fun d M1 x H1 o1 i1 e1 h1 => l.rt d M1 x H1 o1 i1 e1 h1⟩
def vRetN : DS := fun Ed _ M => Ed.rt .non M
theorem qs_retN : QS X C (.Return none pos) vRetN := ⟨_, ps_retN, fun Ed γ M σ H E r l h => l.rt .non M .non H r.ow is_non Ext.refl h⟩
def vIf (c : DT) (a b : DS) : DS := fun Ed γ M => c γ M fun k M1 => (k = true → a Ed γ M1) ∧ (k = false → b Ed γ M1)
theorem qs_if {c : Expr} {a b : List Stmt} {vc : DT} (hc : QT X C c vc) (ha : QSs X C a v) (hb : QSs X C b u) : QS X C (.If c a b pos) (vIf vc v u) := by
  obtain ⟨tc, pc, sc⟩ := hc.ex
  obtain ⟨ta, pa, sa⟩ := ha.ex
  obtain ⟨tb, pb, sb⟩ := hb.ex
  refine ⟨_, ps_if pc pa pb, fun Ed γ M σ H E r l h => sc γ M _ σ H _ r h fun k M1 H1 o1 e1 h1 => ?_⟩
  cases k with
  | true => rw [if_pos rfl]; exact sa Ed γ M1 σ H1 E (r.mk' e1 o1) (l.ext e1) (h1.1 rfl)
  | false => rw [if_neg Bool.false_ne_true]; exact sb Ed γ M1 σ H1 E (r.mk' e1 o1) (l.ext e1) (h1.2 rfl)
def vNever : DS := fun _ _ _ => False
theorem qs_never : QS X C st vNever := ⟨_, ps_never, fun _ _ _ _ _ _ _ _ h => h.elim⟩
theorem qss_never {sts : List Stmt} : QSs X C sts vNever := ⟨_, pss_never, fun _ _ _ _ _ _ _ _ h => h.elim⟩
/-! ### targets -/
abbrev DG := D → Gm → Mem → (Gm → Mem → Prop) → Prop
abbrev DGs := List D → Gm → Mem → (Gm → Mem → Prop) → Prop
def SndG (G : Gx) (t : TG) (g : DG) : Prop := ∀ (d : D) (γ : Gm) (M : Mem) (R : Gm → Mem → Prop) (σ : St) (H : Hp) (x : V) (Q : St → Hp → Prop), Rel G M γ σ H → Is G M H d x → g d γ M R →
  (∀ γ' M' σ' H', Rel G M' γ' σ' H' → Ext M M' H H' → R γ' M' → Q σ' H') → t x σ H Q
def SndGs (G : Gx) (t : TGs) (g : DGs) : Prop := ∀ (ds : List D) (γ : Gm) (M : Mem) (R : Gm → Mem → Prop) (σ : St) (H : Hp) (xs : List V) (Q : St → Hp → Prop), Rel G M γ σ H → IsL G M H ds xs → g ds γ M R →
  (∀ γ' M' σ' H', Rel G M' γ' σ' H' → Ext M M' H H' → R γ' M' → Q σ' H') → t xs σ H Q
structure QG (X : Cx) (C : Addr) (tg : Expr) (g : DG) : Prop where
  ex : ∃ t, PG X tg t ∧ SndG ⟨X.K, C⟩ t g
structure QGs (X : Cx) (C : Addr) (tg : List Expr) (g : DGs) : Prop where
  ex : ∃ t, PGs X tg t ∧ SndGs ⟨X.K, C⟩ t g
def dName (i : Nat) : DG := fun d γ M R => R (gset γ i (some d)) M
theorem sndG_name {G : Gx} {i : Nat} : SndG G (gName i) (dName i) := fun d γ M R σ H x Q r i1 h k => k _ M _ H ⟨r.sl.set i1, r.ow⟩ Ext.refl h
theorem qg_name {i : Nat} {x : Str} (hN : X.N.Nodup) (hi : X.N[i]? = some x := by rfl) (hx : Loc X.env.scope x := by first | exact Or.inl rfl | exact Or.inr rfl) (hf : X.fn x = true ∨ X.env.scope.names.lookup x = some .local := by first | exact .inl rfl | exact .inr rfl | assumption) : QG X C (.Name x pos) (dName i) :=
  ⟨_, pg_name hN hi hx hf, sndG_name⟩
def dNil : DGs := fun ds γ M R => match ds with
  | [] => R γ M
  | _ => False
def dCons (g : DG) (gs : DGs) : DGs := fun ds γ M R => match ds with
  | d :: r => g d γ M fun γ' M' => gs r γ' M' R
  | [] => False
theorem qgs_nil : QGs X C [] dNil := ⟨_, pgs_nil, fun ds γ M R σ H xs Q r i1 h k => by
  match ds, xs, i1, h with
  | [], [], _, h => exact ⟨rfl, k γ M σ H r Ext.refl h⟩
  | [], _ :: _, i1, _ => unfold IsL at i1; exact i1.elim⟩
theorem qgs_cons {es : List Expr} {g : DG} {gs : DGs} (h1 : QG X C e g) (h2 : QGs X C es gs) (hs : (assignEach (e :: es) X.env).map (·.2) = assign e X.env :: (assignEach es X.env).map (·.2) := by rfl) : QGs X C (e :: es) (dCons g gs) := by
  obtain ⟨t, p, s⟩ := h1.ex
  obtain ⟨t2, p2, s2⟩ := h2.ex
  refine ⟨_, pgs_cons p p2 hs, fun ds γ M R σ H xs Q r i1 h k => ?_⟩
  match ds, xs, i1, h with
  | d :: ds, x :: xs, i1, h =>
    unfold IsL at i1
    exact ⟨x, xs, rfl, s d γ M _ σ H x _ r i1.1 h fun γ' M' σ' H' r' e' h' => s2 ds γ' M' R σ' H' xs Q r' (IsL.ext e' ds xs i1.2) h' fun γ2 M2 σ2 H2 r2 e2 h2 => k γ2 M2 σ2 H2 r2 (e'.trans e2) h2⟩
  | _ :: _, [], i1, _ => unfold IsL at i1; exact i1.elim
def dTup (n : Nat) (gs : DGs) : DG := fun d γ M R => match d with
  | .tup ds => ds.length = n ∧ gs ds γ M R
  | _ => False
theorem qg_tup {es : List Expr} {k : Nat} {gs : DGs} {n : Nat} (h : QGs X C es gs) (hc : X.calm = true := by rfl) (hn : (assignEach es X.env).length = n := by rfl) (hst : (assignEach es X.env).findIdx? (·.1) = none := by rfl) : QG X C (.Tuple es k pos) (dTup n gs) := by
  obtain ⟨t, p, s⟩ := h.ex
  refine ⟨_, pg_tup hc p hn hst, fun d γ M R σ H x Q r i1 h k => ?_⟩
  cases d with
  | tup ds =>
    have i2 := i1
    unfold Is at i2
    obtain ⟨a, xs, e1, m, ha, hl⟩ := i2
    exact ⟨a, xs, e1, SqT.of ha, by rw [← hl.len]; exact h.1, s ds γ M R σ H xs Q r hl h.2 k⟩
  | _ => exact False.elim h
/-- o[i] = v, o an owned list -/
def dSub (o i : DE) : DG := fun d γ M R => o γ M fun od M1 => i γ M1 fun id M2 => match od, id with
  | .own a, .int k => (match M2 a with
    | some (.lst ds) => pureD d = true ∧ ∃ j, ixN ds.length k = some j ∧ R γ (mset M2 a (.lst (ds.set j d)))
    | _ => False)
  | _, _ => False
theorem pureL_set : ∀ {ds : List D} {j : Nat} {d : D}, pureL ds = true → pureD d = true → pureL (ds.set j d) = true
  | [], _, _, _, _ => by simp [pureL]
  | x :: r, 0, d, h, hd => by
    unfold pureL at h
    rw [Bool.and_eq_true] at h
    show pureL (d :: r) = true
    unfold pureL
    rw [hd, h.2]; rfl
  | x :: r, j + 1, d, h, hd => by
    unfold pureL at h
    rw [Bool.and_eq_true] at h
    show pureL (x :: r.set j d) = true
    unfold pureL
    rw [h.1, pureL_set h.2 hd]; rfl
theorem pureL_append : ∀ {ds es : List D}, pureL ds = true → pureL es = true → pureL (ds ++ es) = true
  | [], _, _, h => h
  | x :: r, es, h, he => by
    unfold pureL at h
    rw [Bool.and_eq_true] at h
    show pureL (x :: (r ++ es)) = true
    unfold pureL
    rw [h.1, pureL_append h.2 he]; rfl
theorem qg_sub {o i : Expr} {vo vi : DE} (ho : QE X C o vo) (hi : QE X C i vi)
    (ha : ∀ v, assign (.Subscript o i pos) X.env v = (do
      let ov ← holding [v] (eval o X.env)
      let iv ← holding [v, ov] (eval i X.env)
      standAt pos
      holding [v, ov, iv] (setItem ov iv v)
      release [v, ov, iv] []) := by intro _; rfl) : QG X C (.Subscript o i pos) (dSub vo vi) := by
  obtain ⟨to, po, so⟩ := ho.ex
  obtain ⟨ti, pi, si⟩ := hi.ex
  refine ⟨_, pg_sub po pi set_list ha, fun d γ M R σ H x Q r i1 h k => so γ M _ σ H _ r h fun od M1 ox H1 o1 j1 e1 h1 => si γ M1 _ σ H1 _ (r.mk' e1 o1) h1 fun id M2 ix H2 o2 j2 e2 h2 => ?_⟩
  cases od with
  | own a =>
    cases id with
    | int z =>
      have ja := Is.ext e2 _ _ j1
      unfold Is at ja j2
      cases q : M2 a with
      | none => simp only [q] at h2
      | some m =>
        cases m with
        | lst ds =>
          simp only [q] at h2
          obtain ⟨pd, j, hj, hr⟩ := h2
          obtain ⟨pu, xs, ha, hl⟩ := o2 a _ q
          refine ⟨a, xs, z, j, ja.1, j2, ha, by rw [← hl.len]; exact hj, ?_⟩
          have x12 := e1.trans e2
          have is2 := Is.ext x12 d x i1
          exact k γ (mset M2 a (.lst (ds.set j d))) σ _ ⟨(r.sl.ext x12).ext (Ext.put ja.2), o2.put ja.2 (pureL_set pu pd) (hl.set is2)⟩ (x12.trans (Ext.put ja.2)) hr
        | _ => simp only [q] at h2
    | _ => exact False.elim h2
  | _ => exact False.elim h2
def vAsg (a : DE) (g : DG) : DS := fun Ed γ M => a γ M fun d M1 => g d γ M1 Ed.nx
theorem snd_asg {ta : TE} {tg : TG} {g : DG} (sa : Snd ⟨X.K, C⟩ ta ve) (sg : SndG ⟨X.K, C⟩ tg g) : SndS X C (tAsg ta tg) (vAsg ve g) := fun Ed γ M σ H E r l h =>
  sa γ M _ σ H _ r h fun d M1 x H1 o1 i1 e1 h1 => sg d γ M1 _ σ H1 x _ (r.mk' e1 o1) i1 h1 fun γ' M' σ' H' r' e' h' => l.nx γ' M' σ' H' r' (e1.trans e') h'
theorem qs_asg {tg : Expr} {g : DG} (he : QE X C e ve) (hg : QG X C tg g) (hs : swapsWithSole [tg] e pos.line X.env = pure false := by rfl) (hw : swappedStores [tg] e X.env = pure none := by rfl)
    (h1 : (assignEach [tg] X.env).map (·.2) = [assign tg X.env] := by rfl) : QS X C (.Assign [tg] e pos) (vAsg ve g) :=
  let ⟨_, p, s⟩ := he.ex; let ⟨_, p2, s2⟩ := hg.ex; ⟨_, ps_asg p p2 hs hw h1, snd_asg s s2⟩
/-- x = e -/
theorem qs_set {i : Nat} {x : Str} {pos' : Pos} (hN : X.N.Nodup) (he : QE X C e ve) (hi : X.N[i]? = some x := by rfl) (hx : Loc X.env.scope x := by first | exact Or.inl rfl | exact Or.inr rfl) (hs : swapsWith e (some (.Name x pos')) pos.line X.env = pure false := by rfl) (hf : X.fn x = true ∨ X.env.scope.names.lookup x = some .local := by first | exact .inl rfl | exact .inr rfl | assumption) :
    QS X C (.Assign [.Name x pos'] e pos) (vAsg ve (dName i)) :=
  let ⟨_, p, s⟩ := he.ex; ⟨_, ps_set hN hi hx p hs hf, snd_asg s sndG_name⟩
/-- a, b = x, y -/
def vPar (i j : Nat) (a : DA) : DS := fun Ed γ M => a γ M fun ds M1 => match ds with
  | [x, y] => Ed.nx (gset (gset γ i (some x)) j (some y)) M1
  | _ => False
theorem qs_par {i j : Nat} {x y : Str} {a b : Expr} {va : DA} {px py pt : Pos} {kt k2 pt2} (hN : X.N.Nodup) (ha : QA X C [a, b] va) (hi : X.N[i]? = some x := by rfl) (hj : X.N[j]? = some y := by rfl) (hij : i ≠ j := by decide)
    (hx : X.env.scope.names.lookup x = some .local := by rfl) (hy : X.env.scope.names.lookup y = some .local := by rfl) (hc : X.calm = true := by rfl)
    (hw : swappedStores [.Tuple [.Name x px, .Name y py] kt pt] (.Tuple [a, b] k2 pt2) X.env = pure (some [x, y]) := by rfl)
    (hs : swapsWithSole [.Tuple [.Name x px, .Name y py] kt pt] (.Tuple [a, b] k2 pt2) pos.line X.env = pure false := by rfl) :
    QS X C (.Assign [.Tuple [.Name x px, .Name y py] kt pt] (.Tuple [a, b] k2 pt2) pos) (vPar i j va) := by
  obtain ⟨ta, pa, sa⟩ := ha.ex
  refine ⟨_, ps_par hc hN hi hj hij hx hy pa hw hs, fun Ed γ M σ H E r l h => sa γ M _ σ H _ r h fun ds M1 xs H1 o1 i1 e1 h1 => ?_⟩
  match ds, h1 with
  | [d, f], h1 =>
    obtain ⟨v, w, e2, q1, q2⟩ := isL2 i1
    exact ⟨v, w, e2, l.nx _ M1 _ H1 ⟨((r.sl.ext e1).set q1).set q2, o1⟩ e1 h1⟩
/-- x op= e for ints -/
def vAug (i : Nat) (f : Int → Int → Int) (a : DE) : DS := fun Ed γ M => match gt γ i with
  | some (.int x) => a γ M fun d M1 => (match d with
    | .int y => Ed.nx (gset γ i (some (.int (f x y)))) M1
    | _ => False)
  | _ => False
theorem qs_augG {i : Nat} {x : Str} {op : Operator} {f : Int → Int → Int} {pos' : Pos} (ho : PIp X op (ipI f)) (hN : X.N.Nodup) (he : QE X C e ve) (hi : X.N[i]? = some x := by rfl) (hx : Loc X.env.scope x := by first | exact Or.inl rfl | exact Or.inr rfl) (hf : X.fn x = true ∨ X.env.scope.names.lookup x = some .local := by first | exact .inl rfl | exact .inr rfl | assumption) :
    QS X C (.AugAssign (.Name x pos') op e pos) (vAug i f ve) := by
  obtain ⟨t, p, s⟩ := he.ex
  refine ⟨_, ps_aug hN hi hx p ho hf, fun Ed γ M σ H E r l h => ?_⟩
  unfold vAug at h
  split at h
  · rename_i z q
    obtain ⟨v, h1, h2⟩ := r.sl.get q
    unfold Is at h2
    refine ⟨v, h1, s γ M _ σ H _ r h fun d M1 y H1 o1 i1 e1 h3 => ?_⟩
    split at h3
    · rename_i w
      unfold Is at i1
      exact ⟨z, w, h2, i1, l.nx _ M1 _ H1 ⟨(r.sl.ext e1).set is_int, o1⟩ e1 h3⟩
    · exact h3.elim
  · exact h.elim
/-! ### while -/
def vWhile (c : DT) (b : DS) : DS := fun Ed γ M => ∃ W : Nat → Gm → Mem → Prop, (∃ m, W m γ M) ∧ ∀ m γ' M', W m γ' M' →
  c γ' M' fun k M1 => (k = true → b { Ed with nx := fun γ2 M2 => ∃ m2, m2 < m ∧ W m2 γ2 M2, ct := fun γ2 M2 => ∃ m2, m2 < m ∧ W m2 γ2 M2, bk := Ed.nx } γ' M1) ∧ (k = false → Ed.nx γ' M1)
theorem qs_while {c : Expr} {body : List Stmt} {vc : DT} (hc : QT X C c vc) (hb : QSs X C body v) (hp : PassesOwn (model X.prog X.w) X.A X.env X.xe := by first | exact PassesOwn.never | exact passes_of rfl | assumption) : QS X C (.While c body [] pos) (vWhile vc v) := by
  obtain ⟨tc, pc, sc⟩ := hc.ex
  obtain ⟨tb, pb, sb⟩ := hb.ex
  refine ⟨_, ps_while hp pc pb, fun Ed γ M σ H E r l h => ?_⟩
  obtain ⟨W, ⟨m0, w0⟩, turn⟩ := h
  refine ⟨fun m σ' H' => ∃ γ' M', Rel ⟨X.K, C⟩ M' γ' σ' H' ∧ Ext M M' H H' ∧ W m γ' M', ⟨m0, γ, M, r, Ext.refl, w0⟩, ?_⟩
  rintro m σ' H' ⟨γ', M', r', e', w'⟩
  refine sc γ' M' _ σ' H' _ r' (turn m γ' M' w') fun k M1 H1 o1 e1 h1 => ?_
  cases k with
  | true =>
    rw [if_pos rfl]
    refine ⟨fun σ2 H2 => ∃ m2, m2 < m ∧ ∃ γ2 M2, Rel ⟨X.K, C⟩ M2 γ2 σ2 H2 ∧ Ext M M2 H H2 ∧ W m2 γ2 M2, fun σ2 H2 ⟨m2, hm, q⟩ => ⟨m2, hm, q⟩, ?_⟩
    refine sb _ γ' M1 σ' H1 _ (r'.mk' e1 o1) ⟨?_, ?_, ?_, ?_, ?_⟩ (h1.1 rfl)
    · rintro γ2 M2 σ2 H2 r2 e2 ⟨m2, hm, w2⟩
      exact ⟨m2, hm, γ2, M2, r2, (e'.trans e1).trans e2, w2⟩
    · exact (l.ext (e'.trans e1)).rt
    · exact (l.ext (e'.trans e1)).nx
    · rintro γ2 M2 σ2 H2 r2 e2 ⟨m2, hm, w2⟩
      exact ⟨m2, hm, γ2, M2, r2, (e'.trans e1).trans e2, w2⟩
    · exact (l.ext (e'.trans e1)).xx
  | false =>
    rw [if_neg Bool.false_ne_true]
    exact l.nx γ' M1 σ' H1 (r'.mk' e1 o1) (e'.trans e1) (h1.2 rfl)
end
/-! ### what is walked -/
structure ItD where
  its : List D
  st : Mem → Prop
def ItR (G : Gx) (M1 : Mem) (H1 : Hp) (J : It) (j : ItD) : Prop := ∀ (M : Mem) (H : Hp), Ext M1 M H1 H → Own G M H → j.st M → ∀ i : Nat,
  (∀ d, j.its[i]? = some d → J.go i H ∧ ∀ x H', J.yld i H x H' → Own G M H' ∧ Is G M H' d x ∧ Ext M M H H') ∧ (j.its.length ≤ i → J.stop i H)
abbrev DI := Gm → Mem → (ItD → Mem → Prop) → Prop
def SndI (G : Gx) (wi : TI) (v : DI) : Prop := ∀ (γ : Gm) (M : Mem) (R : ItD → Mem → Prop) (σ : St) (H : Hp) (Q : It → Hp → Prop), Rel G M γ σ H → v γ M R →
  (∀ j J M' H', Own G M' H' → Ext M M' H H' → ItR G M' H' J j → R j M' → Q J H') → wi σ H Q
structure QI (X : Cx) (C : Addr) (tg iter : Expr) (v : DI) : Prop where
  ex : ∃ wi, PI X tg iter wi ∧ SndI ⟨X.K, C⟩ wi v
section
variable {X : Cx} {C : Addr} {tg : Expr} {e : Expr} {ve : DE} {pos : Pos}
def liD (d : D) (ds : List D) : ItD := ⟨ds, fun M => seqI M d = some ds⟩
/-- a list -/
def wList (a : DE) : DI := fun γ M R => a γ M fun d M1 => match isTup d, seqI M1 d with
  | false, some ds => R (liD d ds) M1
  | _, _ => False
theorem qi_list (he : QE X C e ve) : QI X C tg e (wList ve) := by
  obtain ⟨t, p, s⟩ := he.ex
  refine ⟨_, pi_list p, fun γ M R σ H Q r h k => s γ M _ σ H _ r h fun d M1 x H1 o1 i1 e1 h1 => ?_⟩
  cases q : isTup d with
  | true => rw [q] at h1; exact h1.elim
  | false =>
    cases q2 : seqI M1 d with
    | none => rw [q, q2] at h1; exact h1.elim
    | some ds =>
      rw [q, q2] at h1
      obtain ⟨a, xs, ex, l, sq⟩ := seq_at o1 i1 q2
      rcases sq with ⟨_, sq⟩ | ⟨z, _⟩
      · refine ⟨a, ex, ⟨xs, sq⟩, k _ _ M1 H1 o1 e1 ?_ h1⟩
        intro M' H' x' o' st i
        obtain ⟨a', xs', ex', l', sq'⟩ := seq_at o' (Is.ext x' d x i1) st
        have ea : a' = a := by rw [ex] at ex'; cases ex'; rfl
        subst ea
        rcases sq' with ⟨_, sq'⟩ | ⟨z, _⟩
        · refine ⟨fun d' hd => ?_, fun hn => ⟨xs', sq', by rw [← l'.len]; exact hn⟩⟩
          obtain ⟨v, hv, iv⟩ := l'.get hd
          refine ⟨⟨xs', v, sq', hv⟩, fun y H2 hy => ?_⟩
          obtain ⟨eH, hy⟩ := hy
          subst eH
          have ey := hy xs' sq'
          rw [hv] at ey
          cases ey
          exact ⟨o', iv, Ext.refl⟩
        · rw [q] at z; cases z
      · rw [q] at z; cases z
/-- a tuple -/
def wTup (a : DE) : DI := fun γ M R => a γ M fun d M1 => match d with
  | .tup ds => R ⟨ds, fun _ => True⟩ M1
  | _ => False
theorem qi_tup (he : QE X C e ve) : QI X C tg e (wTup ve) := by
  obtain ⟨t, p, s⟩ := he.ex
  refine ⟨_, pi_tup p, fun γ M R σ H Q r h k => s γ M _ σ H _ r h fun d M1 x H1 o1 i1 e1 h1 => ?_⟩
  cases d with
  | tup ds =>
    have i2 := i1
    unfold Is at i2
    obtain ⟨a, xs, ex, m, ha, hl⟩ := i2
    refine ⟨a, ex, ⟨xs, SqT.of ha⟩, k _ _ M1 H1 o1 e1 ?_ h1⟩
    intro M' H' x' o' st i
    have ha' : H' a = some (.tup xs) := (x'.st a _ m ha).1
    have l' := IsL.ext x' ds xs hl
    refine ⟨fun d' hd => ?_, fun hn => ⟨xs, SqT.of ha', by rw [← l'.len]; exact hn⟩⟩
    obtain ⟨v, hv, iv⟩ := l'.get hd
    refine ⟨⟨xs, v, SqT.of ha', hv⟩, fun y H2 hy => ?_⟩
    obtain ⟨eH, hy⟩ := hy
    subst eH
    have ey := hy xs (SqT.of ha')
    rw [hv] at ey
    cases ey
    exact ⟨o', iv, Ext.refl⟩
  | _ => exact False.elim h1
/-- lo, lo + 1, .. -/
def rngD (lo : Int) (n : Nat) : List D := (List.range n).map fun (i : Nat) => D.int (lo + (i : Int))
theorem rngD_get (lo : Int) (n i : Nat) (d : D) : (rngD lo n)[i]? = some d ↔ i < n ∧ d = .int (lo + i) := by
  unfold rngD
  rw [List.getElem?_map]
  by_cases h : i < n
  · rw [List.getElem?_range h]
    simp [h, eq_comm]
  · have e : (List.range n)[i]? = none := by simp; omega
    rw [e]; simp [h]
theorem rngD_len (lo : Int) (n : Nat) : (rngD lo n).length = n := by simp [rngD]
theorem itR_rng {G : Gx} {M1 : Mem} {H1 : Hp} {lo : Int} {n : Nat} : ItR G M1 H1 (Itr lo n) ⟨rngD lo n, fun _ => True⟩ := by
  intro M H x o st i
  refine ⟨fun d hd => ?_, fun hn => by rw [rngD_len] at hn; exact hn⟩
  obtain ⟨hi, ed⟩ := (rngD_get lo n i d).mp hd
  refine ⟨hi, fun y H' hy => ?_⟩
  obtain ⟨eH, ey⟩ := hy
  subst eH
  rw [ed, ey]
  exact ⟨o, is_int, Ext.refl⟩
def wRng1 (a : DA) : DI := fun γ M R => a γ M fun ds M1 => match ds with
  | [.int j] => -(2 ^ 62) ≤ j ∧ j < 2 ^ 62 ∧ R ⟨rngD 0 j.toNat, fun _ => True⟩ M1
  | _ => False
section
variable {X : Cx} {tg : Expr}
theorem turn_long {P : Program} {w : World} {K : PySem.W.Frag} {tg : Expr} (it : Addr) (lo : Int) (n : Nat) : Turn P w K tg (Itr lo n) [it] it (fun i h => IsLongIter h it (lo + (i : Nat) * 1) ((n : Int) - (i : Nat)) 1) where
  mem := by simp
  obj := fun i h st b hb => by
    obtain rfl : b = it := by simpa using hb
    refine ⟨_, st, fun v z => ?_⟩
    have y : Data.fields _ = Data.cell v := z
    cases y
  keep := fun i h h' st k => k it (by simp) _ st
  item := by
    intro X hP hw hK hc i pins s σ H E I hf st hg
    subst hP hw hK
    obtain ⟨f0, f1, f2, f3, f4, f5⟩ := hf it (by simp)
    refine (Walks.longrange (prog := X.prog) (w := X.w) (I.ok.hd hc) it lo 1 n).item i s _ _ hg st fun v h' tk hv st' kk => ?_
    obtain ⟨t, rfl⟩ := hv
    refine ⟨_, rfl, go_of (s := { s with heap := h', toks := tk }) (n := "longrange_iterator") st' rfl rfl (by decide) ⟨.int (lo + i), H, I.turned (fun b o hb e => kk b o (by simpa using hb) e) f0 f1 f3 f4 f5, ⟨t, ?_⟩, ⟨rfl, rfl⟩, st', fun b hb => (hf b hb).1⟩⟩
    rw [Int.mul_one]
  done := by
    intro X hP hw hK hc i pins s σ H E I hf st hg
    subst hP hw hK
    obtain ⟨f0, f1, f2, f3, f4, f5⟩ := hf it (by simp)
    exact wpAny_pyNext_long_end (I.ok.hd hc) st (by have : n ≤ i := hg; omega) fun h' eb => ⟨rfl, I.turned (t' := s.toks) (fun b o hb e => eb b o hb e) f0 f1 f3 f4 f5⟩
  self := fun _ _ _ _ _ st h => wpAny_pyIter_longiter st h
/-- a range just made, of any ends, is walked -/
theorem range_any {pins : List (Addr × Obj)} {σ : St} {H : Hp} {s : Shared} {R : It → Hp → Prop} {E : Value → Shared → Prop} {lo hi : Int} {t u v : Tok} {tk : Nat} (I : Inv X pins σ H s)
    (q : R (Itr lo (hi - lo).toNat) H) : wpAny (model X.prog X.w) X.A (pyIter (.ref s.heap.objs.size)) (PIE X pins σ tg R) E { s with heap := s.heap.push { cls := .type "range", data := .fields #[.int lo t, .int hi u, .int 1 v] }, toks := tk } := by
  have I1 : Inv X pins σ H { s with heap := s.heap.push { cls := .type "range", data := .fields #[.int lo t, .int hi u, .int 1 v] }, toks := tk } := I.kept fun b o e => Heap.get?_push_of_some _ e
  have e1 : lo + ((0 : Nat) : Int) * 1 = lo := by simp
  have e2 : (((hi - lo).toNat : Nat) : Int) - ((0 : Nat) : Int) = Builtin.Range.rangeSize lo hi 1 := by rw [rangeSize_one]; split <;> omega
  cases sm : Builtin.Range.small lo hi 1 with
  | true =>
    refine wpAny_pyIter_range (IsRange.new ..) sm ?_
    refine ⟨_, [_], _, _, H, rfl, I1.kept (t' := tk) fun b o e => Heap.get?_push_of_some _ e, turn_range _ lo (hi - lo).toNat, ?_, fun b hb => ?_, q⟩
    · show IsRangeIter _ _ (lo + ((0 : Nat) : Int) * 1) ((((hi - lo).toNat : Nat) : Int) - ((0 : Nat) : Int)) 1
      rw [e1, e2]
      exact Heap.get?_push_size _ rfl
    · have e := List.mem_singleton.mp hb
      subst e
      exact I1.fpOk (Nat.le_refl _) (I1.hok.fresh (Nat.le_refl _))
  | false =>
    refine wpAny_pyIter_longrange (IsRange.new ..) sm ?_
    refine ⟨_, [_], _, _, H, rfl, I1.kept (t' := tk) fun b o e => Heap.get?_push_of_some _ e, turn_long _ lo (hi - lo).toNat, ?_, fun b hb => ?_, q⟩
    · show IsLongIter _ _ (lo + ((0 : Nat) : Int) * 1) ((((hi - lo).toNat : Nat) : Int) - ((0 : Nat) : Int)) 1
      rw [e1, e2]
      exact Heap.get?_push_size _ rfl
    · have e := List.mem_singleton.mp hb
      subst e
      exact I1.fpOk (Nat.le_refl _) (I1.hok.fresh (Nat.le_refl _))
def iAny2 (ta : TA) : TI := fun σ H R => ta σ H fun vs H1 => ∃ i j : Int, vs = [.int i, .int j] ∧ R (Itr i (j - i).toNat) H1
open PySem.Spec PyProof.Rows in
theorem pi_any2 {a b : Expr} {ta : TA} {p pos : Pos} (hg : Gl X "range") (hm : X.mg "range" = none) (ha : PA X [a, b] ta) (hs : starEach [a, b] X.env = [(false, eval a X.env), (false, eval b X.env)]) (hs2 : starEach [b] X.env = [(false, eval b X.env)]) : PI X tg (.Call (.Name "range" p) [a, b] [] pos) (iAny2 ta) := by
  refine ⟨fun pins s σ H R I h => Call_ (ld_blt I hg hm boot_range (PyProof.Rows.callWith_type1 (thn (ha.run pos pins s σ H _ I h) fun us s1 ⟨vs, H1, I1, r1, q1⟩ => ?_) (by rw [hs, hs2]) (by rw [hs2]; rfl)))⟩
  obtain ⟨i, j, e, q⟩ := q1
  subst e
  cases r1 with
  | cons r rr =>
    cases rr with
    | cons r' rr =>
      cases rr
      obtain ⟨t, rfl⟩ := r
      obtain ⟨t', rfl⟩ := r'
      exact call_range_2 (range_any I1 q)
end
def wRng2 (a : DA) : DI := fun γ M R => a γ M fun ds M1 => match ds with
  | [.int i, .int j] => R ⟨rngD i (j - i).toNat, fun _ => True⟩ M1
  | _ => False
theorem qi_rng1 {va : DA} {p : Pos} (hm : X.mg "range" = none) (ha : QA X C [e] va) (hg : Gl X "range" := by rfl) (hs : starEach [e] X.env = [(false, eval e X.env)] := by rfl) : QI X C tg (.Call (.Name "range" p) [e] [] pos) (wRng1 va) := by
  obtain ⟨t, p, s⟩ := ha.ex
  refine ⟨_, pi_range1 hg hm p hs, fun γ M R σ H Q r h k => s γ M _ σ H _ r h fun ds M1 xs H1 o1 i1 e1 h1 => ?_⟩
  match ds, h1 with
  | [.int j], h1 =>
    obtain ⟨v, ev, q⟩ := isL1 i1
    unfold Is at q
    exact ⟨j, by rw [ev, q], h1.1, h1.2.1, k _ _ M1 H1 o1 e1 itR_rng h1.2.2⟩
theorem qi_rng2 {e2 : Expr} {va : DA} {p : Pos} (hm : X.mg "range" = none) (ha : QA X C [e, e2] va) (hg : Gl X "range" := by rfl) (hs : starEach [e, e2] X.env = [(false, eval e X.env), (false, eval e2 X.env)] := by rfl) (hs2 : starEach [e2] X.env = [(false, eval e2 X.env)] := by rfl) : QI X C tg (.Call (.Name "range" p) [e, e2] [] pos) (wRng2 va) := by
  obtain ⟨t, p, s⟩ := ha.ex
  refine ⟨_, pi_any2 hg hm p hs hs2, fun γ M R σ H Q r h k => s γ M _ σ H _ r h fun ds M1 xs H1 o1 i1 e1 h1 => ?_⟩
  match ds, h1 with
  | [.int i, .int j], h1 =>
    obtain ⟨v, w, ev, q, q2⟩ := isL2 i1
    unfold Is at q q2
    exact ⟨i, j, by rw [ev, q, q2], k _ _ M1 H1 o1 e1 itR_rng h1⟩
/-! ### for -/
def vFor (w : DI) (g : DG) (b : DS) : DS := fun Ed γ M => w γ M fun j M1 => ∃ W : Nat → Gm → Mem → Prop, W 0 γ M1 ∧ (∀ i γ' M', W i γ' M' → j.st M') ∧
  (∀ i d γ' M', W i γ' M' → j.its[i]? = some d → g d γ' M' fun γ2 M2 => b { Ed with nx := W (i + 1), ct := W (i + 1), bk := Ed.nx } γ2 M2) ∧ (∀ γ' M', W j.its.length γ' M' → Ed.nx γ' M')
theorem qs_for {iter : Expr} {body : List Stmt} {w : DI} {g : DG} {v : DS} (hi : QI X C tg iter w) (hg : QG X C tg g) (hb : QSs X C body v) (hp : PassesOwn (model X.prog X.w) X.A X.env X.xe := by first | exact PassesOwn.never | exact passes_of rfl | assumption) (hc : X.calm = true := by rfl) (hs : ∀ x, foldedSetIterable iter X.env x = pure x := by intro _; rfl) : QS X C (.For tg iter body [] pos) (vFor w g v) := by
  obtain ⟨wi, pi, si⟩ := hi.ex
  obtain ⟨tg', pg, sg⟩ := hg.ex
  obtain ⟨tb, pb, sb⟩ := hb.ex
  refine ⟨_, ps_for hp hc pi pg pb hs, fun Ed γ M σ H E r l h => si γ M _ σ H _ r h fun j J M1 H1 o1 e1 ir h1 => ?_⟩
  obtain ⟨W, w0, wst, step, fin⟩ := h1
  refine ⟨fun i m σ' H' => m = j.its.length - i ∧ i ≤ j.its.length ∧ ∃ γ' M', Rel ⟨X.K, C⟩ M' γ' σ' H' ∧ Ext M1 M' H1 H' ∧ W i γ' M', ⟨j.its.length, by simp, Nat.zero_le _, γ, M1, r.mk' e1 o1, Ext.refl, w0⟩, ?_⟩
  rintro i m σ' H' ⟨rfl, hi', γ', M', r', e', w'⟩
  obtain ⟨go, stop⟩ := ir M' H' e' r'.ow (wst i γ' M' w') i
  by_cases hlt : i < j.its.length
  · have hd : j.its[i]? = some j.its[i] := by simp [hlt]
    obtain ⟨g1, y1⟩ := go _ hd
    refine .inr ⟨g1, fun σ2 H2 => ∃ γ2 M2, Rel ⟨X.K, C⟩ M2 γ2 σ2 H2 ∧ Ext M1 M2 H1 H2 ∧ W (i + 1) γ2 M2, fun σ2 H2 q => ⟨j.its.length - (i + 1), by omega, rfl, hlt, q⟩, fun x H2 hy => ?_⟩
    obtain ⟨o2, i2, e2⟩ := y1 x H2 hy
    refine sg j.its[i] γ' M' _ σ' H2 x _ (r'.mk' e2 o2) i2 (step i _ γ' M' w' hd) fun γ3 M3 σ3 H3 r3 e3 h3 => ?_
    have x13 := (e'.trans e2).trans e3
    refine sb _ γ3 M3 σ3 H3 _ r3 ⟨?_, ?_, ?_, ?_, ?_⟩ h3
    · intro γ4 M4 σ4 H4 r4 e4 w4
      exact ⟨γ4, M4, r4, x13.trans e4, w4⟩
    · exact (l.ext (e1.trans x13)).rt
    · exact (l.ext (e1.trans x13)).nx
    · intro γ4 M4 σ4 H4 r4 e4 w4
      exact ⟨γ4, M4, r4, x13.trans e4, w4⟩
    · exact (l.ext (e1.trans x13)).xx
  · have en : i = j.its.length := by omega
    subst en
    exact .inl ⟨stop (Nat.le_refl _), l.nx γ' M' σ' H' r' (e1.trans e') (fin γ' M' w')⟩
end
end Dl
namespace Dl
open PySem L2
/-! ### comprehensions -/
theorem wipe_in {σ : St} {j : Nat} : ∀ {vs : List Nat}, j ∈ vs → (wipe σ vs)[j]? = if j < σ.length then some none else none
  | [], h => by cases h
  | v :: vs, h => by
    unfold wipe
    by_cases e : v = j
    · subst e
      by_cases hl : v < σ.length
      · rw [if_pos hl, List.getElem?_set_self (by rw [wipe_length]; exact hl)]
      · rw [if_neg hl]
        rw [List.getElem?_eq_none_iff.mpr]
        rw [List.length_set, wipe_length]; omega
    · rw [List.getElem?_set_ne e]
      rcases List.mem_cons.mp h with z | z
      · exact absurd z.symm e
      · exact wipe_in z
theorem wipe_eq {σ τ : St} {vs : List Nat} (hl : σ.length = τ.length) (h : ∀ j, j ∉ vs → σ[j]? = τ[j]?) : wipe σ vs = wipe τ vs := by
  apply List.ext_getElem?
  intro j
  by_cases hj : j ∈ vs
  · rw [wipe_in hj, wipe_in hj, hl]
  · rw [wipe_out hj, wipe_out hj]; exact h j hj
theorem wipe_set {σ : St} {i : Nat} {x : Option V} {vs : List Nat} (hi : i ∈ vs) : wipe (σ.set i x) vs = wipe σ vs :=
  wipe_eq (by simp) fun j hj => by
    have ne : i ≠ j := fun e => hj (e ▸ hi)
    rw [List.getElem?_set_ne ne]
theorem wipe_wipe {σ : St} {vs : List Nat} : wipe (wipe σ vs) vs = wipe σ vs := wipe_eq (wipe_length σ vs) fun _ hj => wipe_out hj
def gwipe (γ : Gm) : List Nat → Gm
  | [] => γ
  | v :: vs => gset (gwipe γ vs) v none
theorem SlR.unset {G : Gx} {M : Mem} {H : Hp} : ∀ {γ : Gm} {σ : St} {i : Nat}, SlR G M H γ σ → SlR G M H (gset γ i none) (σ.set i none)
  | [], [], _, _ => trivial
  | [], _ :: _, _, h => h.elim
  | a :: _, [], _, h => by cases a <;> exact h.elim
  | none :: r, y :: s, 0, h => h
  | some _ :: r, y :: s, 0, h => h.2
  | none :: r, y :: s, i + 1, h => SlR.unset (γ := r) (σ := s) (i := i) h
  | some _ :: r, y :: s, i + 1, h => ⟨h.1, SlR.unset (γ := r) (σ := s) (i := i) h.2⟩
theorem SlR.wipe {G : Gx} {M : Mem} {H : Hp} {γ : Gm} {σ : St} (h : SlR G M H γ σ) : ∀ vs : List Nat, SlR G M H (gwipe γ vs) (L2.wipe σ vs)
  | [] => h
  | _ :: vs => SlR.unset (SlR.wipe h vs)
def SndGW (G : Gx) (t : TG) (g : DG) (vs : List Nat) : Prop := ∀ (d : D) (γ : Gm) (M : Mem) (R : Gm → Mem → Prop) (σ : St) (H : Hp) (x : V) (Q : St → Hp → Prop), Rel G M γ σ H → Is G M H d x → g d γ M R →
  (∀ γ' M' σ' H', Rel G M' γ' σ' H' → Ext M M' H H' → wipe σ' vs = wipe σ vs → R γ' M' → Q σ' H') → t x σ H Q
def SndGsW (G : Gx) (t : TGs) (g : DGs) (vs : List Nat) : Prop := ∀ (ds : List D) (γ : Gm) (M : Mem) (R : Gm → Mem → Prop) (σ : St) (H : Hp) (xs : List V) (Q : St → Hp → Prop), Rel G M γ σ H → IsL G M H ds xs → g ds γ M R →
  (∀ γ' M' σ' H', Rel G M' γ' σ' H' → Ext M M' H H' → wipe σ' vs = wipe σ vs → R γ' M' → Q σ' H') → t xs σ H Q
structure QGW (X : Cx) (C : Addr) (tg : Expr) (g : DG) (vs : List Nat) : Prop where
  ex : ∃ t, PG X tg t ∧ SndGW ⟨X.K, C⟩ t g vs
structure QGsW (X : Cx) (C : Addr) (tg : List Expr) (g : DGs) (vs : List Nat) : Prop where
  ex : ∃ t, PGs X tg t ∧ SndGsW ⟨X.K, C⟩ t g vs
section
variable {X : Cx} {C : Addr} {e : Expr} {pos : Pos} {vs : List Nat}
theorem qgw_name {i : Nat} {x : Str} (hN : X.N.Nodup) (hv : i ∈ vs := by decide) (hi : X.N[i]? = some x := by rfl) (hx : Loc X.env.scope x := by first | exact Or.inl rfl | exact Or.inr rfl) (hf : X.fn x = true ∨ X.env.scope.names.lookup x = some .local := by first | exact .inl rfl | exact .inr rfl | assumption) : QGW X C (.Name x pos) (dName i) vs :=
  ⟨_, pg_name hN hi hx hf, fun d γ M R σ H x Q r i1 h k => k _ M _ H ⟨r.sl.set i1, r.ow⟩ Ext.refl (wipe_set hv) h⟩
theorem qgsw_nil : QGsW X C [] dNil vs := ⟨_, pgs_nil, fun ds γ M R σ H xs Q r i1 h k => by
  match ds, xs, i1, h with
  | [], [], _, h => exact ⟨rfl, k γ M σ H r Ext.refl rfl h⟩
  | [], _ :: _, i1, _ => unfold IsL at i1; exact i1.elim⟩
theorem qgsw_cons {es : List Expr} {g : DG} {gs : DGs} (h1 : QGW X C e g vs) (h2 : QGsW X C es gs vs) (hs : (assignEach (e :: es) X.env).map (·.2) = assign e X.env :: (assignEach es X.env).map (·.2) := by rfl) : QGsW X C (e :: es) (dCons g gs) vs := by
  obtain ⟨t, p, s⟩ := h1.ex
  obtain ⟨t2, p2, s2⟩ := h2.ex
  refine ⟨_, pgs_cons p p2 hs, fun ds γ M R σ H xs Q r i1 h k => ?_⟩
  match ds, xs, i1, h with
  | d :: ds, x :: xs, i1, h =>
    unfold IsL at i1
    exact ⟨x, xs, rfl, s d γ M _ σ H x _ r i1.1 h fun γ' M' σ' H' r' e' w' h' => s2 ds γ' M' R σ' H' xs Q r' (IsL.ext e' ds xs i1.2) h' fun γ2 M2 σ2 H2 r2 e2 w2 h2 => k γ2 M2 σ2 H2 r2 (e'.trans e2) (w2.trans w') h2⟩
  | _ :: _, [], i1, _ => unfold IsL at i1; exact i1.elim
theorem qgw_tup {es : List Expr} {k : Nat} {gs : DGs} {n : Nat} (h : QGsW X C es gs vs) (hc : X.calm = true := by rfl) (hn : (assignEach es X.env).length = n := by rfl) (hst : (assignEach es X.env).findIdx? (·.1) = none := by rfl) : QGW X C (.Tuple es k pos) (dTup n gs) vs := by
  obtain ⟨t, p, s⟩ := h.ex
  refine ⟨_, pg_tup hc p hn hst, fun d γ M R σ H x Q r i1 h k => ?_⟩
  cases d with
  | tup ds =>
    have i2 := i1
    unfold Is at i2
    obtain ⟨a, xs, e1, m, ha, hl⟩ := i2
    exact ⟨a, xs, e1, SqT.of ha, by rw [← hl.len]; exact h.1, s ds γ M R σ H xs Q r hl h.2 k⟩
  | _ => exact False.elim h
def liftG (G : Gx) (g : DG) (vs : List Nat) : TG := fun x σ H Q => ∃ (d : D) (γ : Gm) (M : Mem) (R : Gm → Mem → Prop), Rel G M γ σ H ∧ Is G M H d x ∧ g d γ M R ∧
  ∀ γ' M' σ' H', Rel G M' γ' σ' H' → Ext M M' H H' → wipe σ' vs = wipe σ vs → R γ' M' → Q σ' H'
theorem QGW.lift {g : DG} (h : QGW X C e g vs) : PG X e (liftG ⟨X.K, C⟩ g vs) := by
  obtain ⟨t, p, s⟩ := h.ex
  exact ⟨fun pins s0 σ H v u Q I rv ⟨d, γ, M, R, re, is, hg, k⟩ => p.run pins s0 σ H v u Q I rv (s d γ M R σ H v Q re is hg k)⟩
def vYes : DT := fun _ M R => R true M
structure QTs (X : Cx) (C : Addr) (ifs : List Expr) (v : DT) : Prop where
  ex : ∃ t, PTs X ifs t ∧ SndT ⟨X.K, C⟩ t v
theorem qts_nil : QTs X C [] vYes := ⟨_, pts_nil, fun γ M R σ H Q r h k => k true M H r.ow Ext.refl h⟩
theorem qts_one {v : DT} (h : QT X C e v) : QTs X C [e] v := let ⟨_, p, s⟩ := h.ex; ⟨_, pts_one p, s⟩
theorem QTs.lift {ifs : List Expr} {v : DT} (h : QTs X C ifs v) : PTs X ifs (liftT ⟨X.K, C⟩ v) := by
  obtain ⟨t, p, s⟩ := h.ex
  exact ⟨fun pins s0 σ H Q I ⟨γ, M, R, re, hv, k⟩ => p.run pins s0 σ H Q I (s γ M R σ H Q re hv k)⟩
/-- [e for g in w if t], frozen: W by the turn, what was made so far, the memory without the new list -/
def vLc (w : DI) (g : DG) (t : DT) (e : DE) (vs : List Nat) : DE := fun γ M R => w γ M fun j M1 => ∀ p, M1 p = none → ∃ W : Nat → List D → Mem → Prop, W 0 [] M1 ∧
  (∀ i acc M', W i acc M' → M' p = none ∧ acc.length < sizeLine ∧ j.st (mset M' p (.lst acc))) ∧
  (∀ i acc M' d, W i acc M' → j.its[i]? = some d → g d (gwipe γ vs) (mset M' p (.lst acc)) fun γ2 M2 => t γ2 M2 fun b M3 =>
    (b = true → e γ2 M3 fun y M4 => pureD y = true ∧ ∃ M5, M4 = mset M5 p (.lst acc) ∧ W (i + 1) (acc ++ [y]) M5) ∧ (b = false → ∃ M5, M3 = mset M5 p (.lst acc) ∧ W (i + 1) acc M5)) ∧
  (∀ acc M', W j.its.length acc M' → R (.lst acc) M')
theorem snd_lc {G : Gx} {wi : TI} {w : DI} {g : DG} {t : DT} {ve : DE} (si : SndI G wi w) : Snd G (tLc wi (liftG G g vs) (liftT G t) (Dl.lift G ve) vs) (vLc w g t ve vs) := by
  intro γ M R σ H Q r h k
  refine si γ M _ σ H _ r h fun j J M1 H1 o1 e1 ir h1 p hp => ?_
  have mp : M1 p = none := o1.fresh hp
  obtain ⟨W, w0, ws, step, fin⟩ := h1 p mp
  have own0 : Own G (mset M1 p (.lst [])) (upd H1 p (.lst [])) := o1.newOwn hp (by simp [pureL]) IsL.nil
  refine ⟨fun i m H' => m = j.its.length - i ∧ i ≤ j.its.length ∧ ∃ acc M', Own G (mset M' p (.lst acc)) H' ∧ Ext M1 (mset M' p (.lst acc)) H1 H' ∧ W i acc M', ⟨j.its.length, by simp, Nat.zero_le _, [], M1, own0, Ext.newOwn hp, w0⟩, ?_⟩
  rintro i m H' ⟨rfl, hi, acc, M', oM, eM, wi'⟩
  obtain ⟨mp', hz, hst⟩ := ws i acc M' wi'
  obtain ⟨go, stop⟩ := ir _ H' eM oM hst i
  by_cases hlt : i < j.its.length
  · have hd : j.its[i]? = some j.its[i] := by simp [hlt]
    obtain ⟨g1, y1⟩ := go _ hd
    refine .inr ⟨g1, fun H2 => ∃ acc M', Own G (mset M' p (.lst acc)) H2 ∧ Ext M1 (mset M' p (.lst acc)) H1 H2 ∧ W (i + 1) acc M', fun H2 q => ⟨j.its.length - (i + 1), by omega, rfl, hlt, q⟩, fun x H2 hy => ?_⟩
    obtain ⟨o2, i2, e2⟩ := y1 x H2 hy
    have x2 := eM.trans e2
    refine ⟨j.its[i], gwipe γ vs, mset M' p (.lst acc), _, ⟨((r.sl.ext (e1.trans x2)).wipe vs), o2⟩, i2, step i acc M' _ wi' hd, fun γ3 M3 σ3 H3 r3 e3 w3 h3 => ⟨w3.trans wipe_wipe, ?_⟩⟩
    refine ⟨γ3, M3, _, r3, h3, fun b M4 H4 o4 e4 h4 => ?_⟩
    cases b with
    | true =>
      rw [if_pos rfl]
      refine ⟨γ3, M4, _, r3.mk' e4 o4, h4.1 rfl, fun y M5 v H5 o5 i5 e5 h5 => ?_⟩
      obtain ⟨pu, M6, eq, w6⟩ := h5
      subst eq
      obtain ⟨pa, xs, hx, hl⟩ := o5 p (.lst acc) mset_same
      refine ⟨xs, hx, by rw [← hl.len]; exact hz, acc ++ [y], M6, ?_, ?_, w6⟩
      · have q := o5.put (p := p) (ds := acc ++ [y]) (xs := xs ++ [v]) (by rw [mset_same]; rfl) (pureL_append pa (by simp [pureL, pu])) (hl.append (IsL.cons i5 IsL.nil))
        rw [mset_set] at q
        exact q
      · have q := ((x2.trans e3).trans (e4.trans e5)).trans (Ext.put (p := p) (o := .lst (xs ++ [v])) (m := .lst (acc ++ [y])) (by rw [mset_same]; rfl))
        rw [mset_set] at q
        exact q
    | false =>
      rw [if_neg Bool.false_ne_true]
      obtain ⟨M6, eq, w6⟩ := h4.2 rfl
      subst eq
      exact ⟨acc, M6, o4, (x2.trans e3).trans e4, w6⟩
  · have en : i = j.its.length := by omega
    subst en
    refine .inl ⟨stop (Nat.le_refl _), ?_⟩
    obtain ⟨pa, xs, hx, hl⟩ := oM p (.lst acc) mset_same
    have sub : Sub M' (mset M' p (.lst acc)) := Sub.set mp'
    have xx := e1.trans eM
    refine k (.lst acc) M' (.ref p) H' (oM.sub sub) ?_ (xx.sub sub fun a ha => ?_) (fin acc M' wi')
    · unfold Is
      exact ⟨p, xs, rfl, mp', hx, IsL.sub (fun b hb => sub.non hb) acc xs pa hl⟩
    · have q := xx.ow a ha
      by_cases hap : a = p
      · subst hap
        have z := e1.ow a ha
        rw [mp] at z; cases z
      · rw [mset_ne hap] at q; exact q
theorem q_lc {elt tg iter : Expr} {ifs : List Expr} {scope : Scope} {own : List (Str × Nat)} {w : DI} {g : DG} {t : DT} {ve : DE} (hN : X.N.Nodup) (hi : QI X C tg iter w) (ok : BlkOk X.N X.env.scope scope own)
    (hg : ∀ (s : Shared) (H : Hp) (a : Addr) (cl : List (Str × Addr)) (fp : List Addr), QGW (X.blk s H scope (compEnvC scope cl a X.env) fp) C tg g (own.map (·.2))) (ht : ∀ (s : Shared) (H : Hp) (a : Addr) (cl : List (Str × Addr)) (fp : List Addr), QTs (X.blk s H scope (compEnvC scope cl a X.env) fp) C ifs t)
    (he : ∀ (s : Shared) (H : Hp) (a : Addr) (cl : List (Str × Addr)) (fp : List Addr), QE (X.blk s H scope (compEnvC scope cl a X.env) fp) C elt ve) (hc : X.calm = true := by rfl) (hs : ∀ x, foldedSetIterable iter X.env x = pure x := by intro _; rfl) :
    QE X C (.ListComp elt [⟨tg, iter, ifs, 0⟩] scope pos) (vLc w g t ve (own.map (·.2))) := by
  obtain ⟨wi, pi, si⟩ := hi.ex
  exact ⟨_, pe_lc hc hN pi ok (fun s H a cl fp => (hg s H a cl fp).lift) (fun s H a cl fp => (ht s H a cl fp).lift) (fun s H a cl fp => (he s H a cl fp).lift) hs, snd_lc si⟩
/-- y = [..] -/
theorem qs_setLc {i : Nat} {y : Str} {py spos : Pos} {elt tg iter : Expr} {ifs : List Expr} {scope : Scope} {own : List (Str × Nat)} {w : DI} {g : DG} {t : DT} {ve : DE} (hN : X.N.Nodup) (hi : QI X C tg iter w) (ok : BlkOk X.N X.env.scope scope own)
    (hg : ∀ (s : Shared) (H : Hp) (a : Addr) (cl : List (Str × Addr)) (fp : List Addr), QGW (X.blk s H scope (compEnvC scope cl a X.env) fp) C tg g (own.map (·.2))) (ht : ∀ (s : Shared) (H : Hp) (a : Addr) (cl : List (Str × Addr)) (fp : List Addr), QTs (X.blk s H scope (compEnvC scope cl a X.env) fp) C ifs t)
    (he : ∀ (s : Shared) (H : Hp) (a : Addr) (cl : List (Str × Addr)) (fp : List Addr), QE (X.blk s H scope (compEnvC scope cl a X.env) fp) C elt ve) (hsw : swapsWith (.ListComp elt [⟨tg, iter, ifs, 0⟩] scope pos) (some (.Name y py)) spos.line X.env = pure true) (hy : X.N[i]? = some y := by rfl) (hyl : X.env.scope.names.lookup y = some .local := by rfl) (hc : X.calm = true := by rfl) (hs : ∀ x, foldedSetIterable iter X.env x = pure x := by intro _; rfl) :
    QS X C (.Assign [.Name y py] (.ListComp elt [⟨tg, iter, ifs, 0⟩] scope pos) spos) (vAsg (vLc w g t ve (own.map (·.2))) (dName i)) := by
  obtain ⟨wi, pi, si⟩ := hi.ex
  exact ⟨_, ps_setLc hc hN hy hyl hsw pi ok (fun s H a cl fp => (hg s H a cl fp).lift) (fun s H a cl fp => (ht s H a cl fp).lift) (fun s H a cl fp => (he s H a cl fp).lift) hs, snd_asg (snd_lc si) sndG_name⟩
end
/-! ### list methods on owned lists -/
section
variable {X : Cx} {C : Addr} {o e : Expr} {vo ve : DE} {pos apos : Pos}
/-- a list is owned here -/
def lstAt (M : Mem) (a : Addr) : Bool := match M a with
  | some (.lst _) => true
  | _ => false
theorem e_lstAt (M : Mem) (a : Addr) : lstAt M a = (match M a with
  | some (.lst _) => true
  | _ => false) := id rfl
theorem lstAt_of {M : Mem} {a : Addr} {ds : List D} (h : M a = some (.lst ds)) : lstAt M a = true := by unfold lstAt; rw [h]
theorem lstAt_set {M : Mem} {a : Addr} {ds : List D} : lstAt (mset M a (.lst ds)) a = true := lstAt_of mset_same
def vAppend (o e : DE) : DE := fun γ M R => o γ M fun od M1 => match od with
  | .own a => lstAt M1 a = true ∧ e γ M1 fun d M2 => (match M2 a with
    | some (.lst ds) => pureD d = true ∧ ds.length < sizeLine ∧ R .non (mset M2 a (.lst (ds ++ [d])))
    | _ => False)
  | _ => False
theorem own_list {G : Gx} {M : Mem} {H : Hp} {a : Addr} (o : Own G M H) (h : lstAt M a = true) : ∃ ds xs, M a = some (.lst ds) ∧ pureL ds = true ∧ H a = some (.lst xs) ∧ IsL G M H ds xs := by
  unfold lstAt at h
  split at h
  · rename_i ds q
    obtain ⟨pu, xs, ha, hl⟩ := o a _ q
    exact ⟨ds, xs, q, pu, ha, hl⟩
  · cases h
theorem q_append (ho : QE X C o vo) (he : QE X C e ve) (hpe : ∀ {to te : TE}, PE X o to → PE X e te → PE X (.Call (.Attribute o "append" apos) [e] [] pos) (tBM X.K "list" rAppend to (tCons te tNil)) := by exact fun h1 h2 => pe_bm PySem.F.plainAttrs_list PySem.F.slot_list_append PySem.F.type_list_append mt_append h1 (pa_cons h2 pa_nil)) : QE X C (.Call (.Attribute o "append" apos) [e] [] pos) (vAppend vo ve) := by
  obtain ⟨to, po, so⟩ := ho.ex
  obtain ⟨te, pe, se⟩ := he.ex
  refine ⟨_, hpe po pe, fun γ M R σ H Q r h k => so γ M _ σ H _ r h fun od M1 x H1 o1 i1 e1 h1 => ?_⟩
  cases od with
  | own a =>
    have j1 := i1
    unfold Is at j1
    obtain ⟨hq, h1⟩ := h1
    obtain ⟨ds, xs, q, pu, ha, hl⟩ := own_list o1 hq
    rw [j1.1]
    refine ⟨.inl ⟨rfl, xs, SqL.of ha⟩, se γ M1 _ σ H1 _ (r.mk' e1 o1) h1 fun d M2 y H2 o2 i2 e2 h2 => ?_⟩
    have j2 := Is.ext e2 _ _ i1
    unfold Is at j2
    have hq2 : lstAt M2 a = true := by
      split at h2
      · rename_i q; exact lstAt_of q
      · exact h2.elim
    obtain ⟨ds2, xs2, q2, pu2, ha2, hl2⟩ := own_list o2 hq2
    simp only [q2] at h2
    refine ⟨a, xs2, y, rfl, rfl, ha2, by rw [← hl2.len]; exact h2.2.1, ?_⟩
    exact k .non (mset M2 a (.lst (ds2 ++ [d]))) .non _ (o2.put j2.2 (pureL_append pu2 (by simp [pureL, h2.1])) (hl2.append (IsL.cons i2 IsL.nil))) is_non ((e1.trans e2).trans (Ext.put j2.2)) h2.2.2
  | _ => exact False.elim h1
end
/-! ### a def by its body -/
def st0 : Nat → List D → Gm
  | 0, _ => []
  | n + 1, [] => none :: st0 n []
  | n + 1, d :: ds => some d :: st0 n ds
theorem st0_rel {G : Gx} {M : Mem} {H : Hp} : ∀ {n : Nat} {ds : List D} {vs : List V}, IsL G M H ds vs → ds.length ≤ n → SlR G M H (st0 n ds) (vs.map some ++ List.replicate (n - vs.length) none)
  | 0, [], [], _, _ => trivial
  | 0, _ :: _, _, _, h => by simp at h
  | _, [], _ :: _, h, _ => by unfold IsL at h; exact h.elim
  | _, _ :: _, [], h, _ => by unfold IsL at h; exact h.elim
  | n + 1, [], [], h, _ => by
    show SlR G M H (none :: st0 n []) (none :: List.replicate n none)
    have q := st0_rel (n := n) (ds := []) (vs := []) h (Nat.zero_le _)
    exact q
  | n + 1, d :: ds, v :: vs, h, hl => by
    unfold IsL at h
    have e : n + 1 - (v :: vs).length = n - vs.length := by simp
    show SlR G M H (some d :: st0 n ds) (some v :: (vs.map some ++ List.replicate (n + 1 - (v :: vs).length) none))
    rw [e]
    exact ⟨⟨v, rfl, h.1⟩, st0_rel h.2 (by simpa using hl)⟩
/-- the end of a def: what it owned by itself is dropped; an owned list may be handed out as it is, or frozen -/
-- what is handed out in a tuple: plain data as it is, an owned list frozen
def FrzD (M' M2 : Mem) (d e : D) : Prop := (pureD d = true ∧ e = d) ∨ ∃ p ds, d = .own p ∧ M' p = some (.lst ds) ∧ M2 p = none ∧ e = .lst ds
def FrzL (M' M2 : Mem) : List D → List D → Prop
  | [], [] => True
  | d :: ds, e :: es => FrzD M' M2 d e ∧ FrzL M' M2 ds es
  | _, _ => False
def fin (M : Mem) (R : DR) : DR := fun d M' => ∃ d2 M2, Sub M2 M' ∧ (∀ a, (M a).isSome = true → (M2 a).isSome = true) ∧
  ((d2 = d ∧ (pureD d = true ∨ ∃ p, d = .own p ∧ (M2 p).isSome = true)) ∨ (∃ p ds, d = .own p ∧ M' p = some (.lst ds) ∧ M2 p = none ∧ d2 = .lst ds) ∨
  (∃ ds es, ((d = .tup ds ∧ d2 = .tup es) ∨ (d = .lst ds ∧ d2 = .lst es)) ∧ FrzL M' M2 ds es)) ∧ R d2 M2
theorem fin_pure {M : Mem} {R : DR} {d : D} (h : R d M) (p : pureD d = true := by rfl) : fin M R d M := ⟨d, M, Sub.refl, fun _ h => h, .inl ⟨rfl, .inl p⟩, h⟩
/-- the memory may be another one, of no fewer owned things -/
theorem fin_to {M M' : Mem} {R : DR} {d : D} (M2 : Mem) (s : Sub M2 M') (dm : ∀ a, (M a).isSome = true → (M2 a).isSome = true) (h : R d M2) (p : pureD d = true := by rfl) : fin M R d M' := ⟨d, M2, s, dm, .inl ⟨rfl, .inl p⟩, h⟩
theorem dom_set {M : Mem} {a : Addr} {m : MO} : ∀ b, (M b).isSome = true → (mset M a m b).isSome = true := fun b h => by
  unfold mset; split
  · rfl
  · exact h
theorem fin_set {M : Mem} {R : DR} {d : D} {a : Addr} {m : MO} (h : R d (mset M a m)) (p : pureD d = true := by rfl) : fin M R d (mset M a m) := ⟨d, _, Sub.refl, dom_set, .inl ⟨rfl, .inl p⟩, h⟩
theorem fin_drop {M : Mem} {R : DR} {d : D} {q : Addr} {m : MO} (hq : M q = none) (h : R d M) (p : pureD d = true := by rfl) : fin M R d (mset M q m) := ⟨d, M, Sub.set hq, fun _ h => h, .inl ⟨rfl, .inl p⟩, h⟩
theorem fin_own {M : Mem} {R : DR} {q : Addr} {m : MO} (h : R (.own q) (mset M q m)) : fin M R (.own q) (mset M q m) := ⟨.own q, _, Sub.refl, dom_set, .inl ⟨rfl, .inr ⟨q, rfl, by rw [mset_same]; rfl⟩⟩, h⟩
theorem fin_frz {M : Mem} {R : DR} {q : Addr} {ds : List D} (hq : M q = none) (h : R (.lst ds) M) : fin M R (.own q) (mset M q (.lst ds)) := ⟨.lst ds, M, Sub.set hq, fun _ h => h, .inr (.inl ⟨q, ds, rfl, mset_same, hq, rfl⟩), h⟩
/-- two owned lists of a def's own, handed out frozen -/
theorem fin_frz2 {M : Mem} {R : DR} {p q : Addr} {ds es : List D} (hp : M p = none) (hq : M q = none) (hpq : p ≠ q) (h : R (.tup [.lst ds, .lst es]) M) : fin M R (.tup [.own p, .own q]) (mset (mset M p (.lst ds)) q (.lst es)) :=
  ⟨_, M, fun a m e => by rw [mset_ne (fun z => by rw [z, hq] at e; cases e), mset_ne (fun z => by rw [z, hp] at e; cases e)]; exact e, fun _ h => h, .inr (.inr ⟨[.own p, .own q], [.lst ds, .lst es], .inl ⟨rfl, rfl⟩, And.intro (.inr ⟨p, ds, rfl, by rw [mset_ne hpq, mset_same], hp, rfl⟩) (And.intro (.inr ⟨q, es, rfl, mset_same, hq, rfl⟩) trivial)⟩), h⟩
theorem fin_frzT {M : Mem} {R : DR} {a q : Addr} {m m' : MO} {x y : D} {ds : List D} (hq : M q = none) (hne : q ≠ a) (px : pureD x = true) (py : pureD y = true) (h : R (.tup [x, y, .lst ds]) (mset M a m')) : fin (mset M a m) R (.tup [x, y, .own q]) (mset (mset M q (.lst ds)) a m') := by
  rw [← mset_comm (M := M) (Ne.symm hne)]
  have hq2 : mset M a m' q = none := by rw [mset_ne hne]; exact hq
  refine ⟨_, mset M a m', Sub.set hq2, fun b hb => ?_, .inr (.inr ⟨[x, y, .own q], [x, y, .lst ds], .inl ⟨rfl, rfl⟩, And.intro (.inl ⟨px, rfl⟩) (And.intro (.inl ⟨py, rfl⟩) (And.intro (.inr ⟨q, ds, rfl, mset_same, hq2, rfl⟩) trivial))⟩), h⟩
  unfold mset at hb ⊢
  split
  · rfl
  · rename_i z; rw [if_neg z] at hb; exact hb
/-- a list with an owned list and plain data, handed out frozen -/
theorem fin_frzL {M : Mem} {R : DR} {q : Addr} {x : D} {ds : List D} (hq : M q = none) (px : pureD x = true) (h : R (.lst [.lst ds, x]) M) : fin M R (.lst [.own q, x]) (mset M q (.lst ds)) :=
  ⟨_, M, Sub.set hq, fun _ h => h, .inr (.inr ⟨[.own q, x], [.lst ds, x], .inr ⟨rfl, rfl⟩, And.intro (.inr ⟨q, ds, rfl, mset_same, hq, rfl⟩) (And.intro (.inl ⟨px, rfl⟩) trivial)⟩), h⟩
def fEnds (M : Mem) (R : DR) : DEnds := { nx := fun _ M' => fin M R .non M', rt := fin M R }
theorem fin_ok {G : Gx} {M M' : Mem} {R : DR} {d : D} {x : V} {H H' : Hp} {Q : VK} (o : Own G M' H') (i : Is G M' H' d x) (e : Ext M M' H H') (h : fin M R d M')
    (k : ∀ d M' x H', Own G M' H' → Is G M' H' d x → Ext M M' H H' → R d M' → Q x H') : Q x H' := by
  obtain ⟨d2, M2, sb, dm, c, hr⟩ := h
  refine k d2 M2 x H' (o.sub sb) ?_ (e.sub sb dm) hr
  rcases c with ⟨rfl, pu | ⟨p, rfl, hp⟩⟩ | ⟨p, ds, rfl, hm, hn, rfl⟩ | ⟨ds, es, eq, fz⟩
  · exact Is.sub (fun a ha => sb.non ha) _ _ pu i
  · unfold Is at i ⊢
    exact ⟨i.1, hp⟩
  · unfold Is at i
    obtain ⟨pu, xs, ha, hl⟩ := o p _ hm
    unfold Is
    exact ⟨p, xs, i.1, hn, ha, IsL.sub (fun a ha => sb.non ha) ds xs pu hl⟩
  · have st : ∀ {p : Addr} {ds : List D} {v : V}, M' p = some (.lst ds) → M2 p = none → Is G M' H' (.own p) v → Is G M2 H' (.lst ds) v := fun {p ds v} hm hn i => by
      unfold Is at i
      obtain ⟨pu, xs, ha, hl⟩ := o p _ hm
      unfold Is
      exact ⟨p, xs, i.1, hn, ha, IsL.sub (fun a ha => sb.non ha) ds xs pu hl⟩
    have stD : ∀ {d e : D} {v : V}, FrzD M' M2 d e → Is G M' H' d v → Is G M2 H' e v := fun {d e v} fz i => by
      rcases fz with ⟨pu, rfl⟩ | ⟨p, ds, rfl, hm, hn, rfl⟩
      · exact Is.sub (fun a ha => sb.non ha) _ _ pu i
      · exact st hm hn i
    have stL : ∀ (ds es : List D) (vs : List V), FrzL M' M2 ds es → IsL G M' H' ds vs → IsL G M2 H' es vs := fun ds => by
      induction ds with
      | nil =>
        intro es vs fz hl
        match es, vs, fz, hl with
        | [], [], _, _ => exact IsL.nil
        | [], _ :: _, _, hl => unfold IsL at hl; exact hl.elim
        | _ :: _, _, fz, _ => exact fz.elim
      | cons d ds ih =>
        intro es vs fz hl
        match es, vs, fz, hl with
        | [], _, fz, _ => exact fz.elim
        | e :: es, [], _, hl => unfold IsL at hl; exact hl.elim
        | e :: es, v :: vs, fz, hl =>
          unfold IsL at hl
          exact IsL.cons (stD fz.1 hl.1) (ih es vs fz.2 hl.2)
    rcases eq with ⟨rfl, rfl⟩ | ⟨rfl, rfl⟩
    · unfold Is at i
      obtain ⟨a, vs, ev, hn3, ha, hl⟩ := i
      unfold Is
      exact ⟨a, vs, ev, sb.non hn3, ha, stL _ _ _ fz hl⟩
    · unfold Is at i
      obtain ⟨a, vs, ev, hn3, ha, hl⟩ := i
      unfold Is
      exact ⟨a, vs, ev, sb.non hn3, ha, stL _ _ _ fz hl⟩
section
variable {P : Program} {w : World} {K : PySem.W.Frag} {mg : Str → Option Value} {base : Heap} {x qual : Str} {params : Arguments} {body : List Stmt} {scope : Scope} {dvs : List V} {kws : List (Str × V)} {f : Addr} {fd : FuncData}
theorem fn_ok {N ps : List Str} {k : Nat} {C : Addr} {S : DSp} {v : DS} (n m : Nat) (F : FunD K x qual params body scope dvs kws f fd) (SC : FnScope N ps scope)
    (hq : ∀ (cdv : Value) (A : Around) (outer : List Env) (s : Shared) (H : Hp) (E : XK), Room k (A.deeper (PyProof.Rows.envOfC qual scope s.heap.objs.size f cdv)) → QSs (cxOf CX0 P w K mg base N qual scope f cdv A outer s H E).nox C body v)
    (hv : ∀ ds M R, ds.length = m → S ds M R noX → v (fEnds M R) (st0 n ds) M) (hn : N.length = n := by rfl) (hm : ps.length = m := by rfl) : FnOk P w K mg base CX0 (k + 1) f fd ps (spD ⟨K, C⟩ m S) := by
  subst hn; subst hm
  have hpl : ps.length ≤ N.length := by have := congrArg List.length SC.pre; rw [List.length_take] at this; omega
  refine F.ok SC (fun vs H Q E h => ?_) (fun cdv A outer s H vs Q E hr h => ?_)
  · obtain ⟨ds, M, R, hl, il, _⟩ := h
    rw [← il.len]; exact hl
  · obtain ⟨ds, M, R, hl, il, ow, hs, k2⟩ := h
    obtain ⟨t, pt, st⟩ := (hq cdv A outer s H E hr).ex
    refine ⟨t, pt.nox, st (fEnds M R) (st0 N.length ds) M _ H _ ⟨st0_rel il (by omega), ow⟩ ⟨?_, ?_, ?_, ?_, ?_⟩ (hv ds M R hl hs)⟩
    · intro γ M' σ H' r' e' h'
      exact fin_ok r'.ow is_non e' h' k2
    · intro d M' y H' o' i' e' h'
      exact fin_ok o' i' e' h' k2
    · intro _ _ _ _ _ _ h'; exact h'.elim
    · intro _ _ _ _ _ _ h'; exact h'.elim
    · intro _ _ _ _ _ _ _ _ _ _ h'; exact h'.elim
end
end Dl
namespace Dl
open PySem L2
/-! ### a def that may be called: by its name -/
structure CallOk (P : Program) (w : World) (K : PySem.W.Frag) (mg : Str → Option Value) (base : Heap) (C : Addr) (k : Nat) (x : Str) (n : Nat) (S : DSp) (dd : List D) : Prop where
  ex : ∃ (f : Addr) (fd : FuncData) (ps : List Str) (ds : List Value) (dv : List V), mg x = some (.ref f) ∧ PySem.W.keepIn K (.ref f) = true ∧ FnOk P w K mg base CX0 k f fd ps (spD ⟨K, C⟩ n S) ∧ Binds K fd ps ds ∧ Vals dv ds ∧ constL dd = some dv
structure KCallOk (P : Program) (w : World) (K : PySem.W.Frag) (mg : Str → Option Value) (base : Heap) (C : Addr) (k : Nat) (x : Str) (n : Nat) (S : DSp) (np : Nat) (ks : List Str) (pick : List D → List D → List D) : Prop where
  ex : ∃ (f : Addr) (fd : FuncData) (ps : List Str) (g : List Value → List Value → List Value) (gV : List V → List V → List V), mg x = some (.ref f) ∧ PySem.W.keepIn K (.ref f) = true ∧ FnOk P w K mg base CX0 k f fd ps (spD ⟨K, C⟩ n S) ∧ KBn K fd ps np ks g gV ∧
    ∀ (M : Mem) (H : Hp) (ds zs : List D) (vs us : List V), IsL ⟨K, C⟩ M H ds vs → IsL ⟨K, C⟩ M H zs us → IsL ⟨K, C⟩ M H (pick ds zs) (gV vs us)
section
variable {X : Cx} {C : Addr} {k j n : Nat} {S : DSp} {dd : List D} {x : Str} {p pos : Pos} {e : Expr} {es : List Expr} {va : DA}
theorem qc (h : CallOk X.prog X.w X.K X.mg X.base C k x n S dd) (hr : Room j X.A) (hkj : k ≤ j) (ha : QA X C (e :: es) va) (hg : Gl X x := by rfl) (hdb : (x == ("__debug__" : Str)) = false := by decide) (he : starEach (e :: es) X.env = (false, eval e X.env) :: starEach es X.env := by rfl) (hpl : (backTo pos (starEach es X.env)).any (·.1) = false := by rfl) :
    QE X C (.Call (.Name x p) (e :: es) [] pos) (vCall n S dd va) := by
  obtain ⟨f, fd, ps, ds, dv, h1, h2, h3, h4, h5, h6⟩ := h.ex
  exact q_call h3 (hr.mono hkj) h1 h2 h4 h5 h6 ha hg hdb he hpl
theorem qc0 (h : CallOk X.prog X.w X.K X.mg X.base C k x n S dd) (hr : Room j X.A) (hkj : k ≤ j) (hg : Gl X x := by rfl) (hdb : (x == ("__debug__" : Str)) = false := by decide) : QE X C (.Call (.Name x p) [] [] pos) (vCall n S dd vNil) := by
  obtain ⟨f, fd, ps, ds, dv, h1, h2, h3, h4, h5, h6⟩ := h.ex
  exact ⟨_, pe_call0 h3 (hr.mono hkj) hg h1 h2 h4 h5 pass0 hdb, snd_call h6 (fun γ M R σ H Q r h k => k _ M _ H r.ow IsL.nil Ext.refl h)⟩
theorem qck {np : Nat} {kws : List Keyword} {ks : List Str} {pick : List D → List D → List D} {vk : DA} (h : KCallOk X.prog X.w X.K X.mg X.base C k x n S np ks pick) (hr : Room j X.A) (hkj : k ≤ j)
    (ha : QA X C (e :: es) va) (hkw : QK X C kws vk) (hg : Gl X x := by rfl) (hall : (backToKw pos (keywordEach kws X.env)).all (·.1.isSome) = true := by rfl) (hks : (backToKw pos (keywordEach kws X.env)).filterMap (·.1) = ks := by rfl)
    (hdb : (x == ("__debug__" : Str)) = false := by decide) (he : starEach (e :: es) X.env = (false, eval e X.env) :: starEach es X.env := by rfl)
    (hpl : ((backTo pos (starEach (e :: es) X.env)).any (·.1) || (backToKw pos (keywordEach kws X.env)).any (·.1.isNone)) = false := by rfl) :
    QE X C (.Call (.Name x p) (e :: es) kws pos) (vCallK n np ks.length S pick va vk) := by
  obtain ⟨f, fd, ps, g, gV, h1, h2, h3, h4, h5⟩ := h.ex
  exact q_callK h3 (hr.mono hkj) h1 h2 h4 h5 ha hkw hg hall hks hdb he hpl
end
section
variable {P : Program} {w : World} {K : PySem.W.Frag} {mg : Str → Option Value} {base : Heap} {C : Addr} {k n : Nat} {S : DSp} {x qual : Str} {params : Arguments} {body : List Stmt} {scope : Scope} {dvs : List V} {kws : List (Str × V)} {f : Addr} {fd : FuncData} {ps : List Str}
/-- every parameter is given -/
theorem call_all (G : mg x = some (.ref f)) (F : FunD K x qual params body scope [] kws f fd) (ok : FnOk P w K mg base CX0 k f fd ps (spD ⟨K, C⟩ n S))
    (h : ∀ (kV doc pm : Value) (an : Option Addr) (cdv ct : Value) (us : List Value), us.length = ps.length → bindArgs (PySem.W.fnOf x qual params body scope .none kV doc pm an cdv ct) ⟨us, []⟩ = pure (ps.zip us)) : CallOk P w K mg base C k x n S [] :=
  ⟨f, fd, ps, [], [], G, F.kp, ok, F.bindsN h, .nil, rfl⟩
/-- defaults fill up behind the first m; j of the defaults are given -/
theorem call_dfl (dd : List D) (m j : Nat) (G : mg x = some (.ref f)) (F : FunD K x qual params body scope dvs kws f fd) (ok : FnOk P w K mg base CX0 k f fd ps (spD ⟨K, C⟩ n S)) (hd : dvs ≠ []) (hn : m + (dvs.length - j) = ps.length) (hdd : constL dd = some (dvs.drop j))
    (h : ∀ (T : Addr) (kV doc pm : Value) (an : Option Addr) (cdv ct : Value) (us its : List Value), us.length = m → its.length = dvs.length →
      ∃ k, bindArgs (PySem.W.fnOf x qual params body scope (.ref T) kV doc pm an cdv ct) ⟨us, []⟩ = seqItems? (.ref T) >>= k ∧ k (some its.toArray) = pure (ps.zip (us ++ its.drop j))) : CallOk P w K mg base C k x n S dd := by
  obtain ⟨ds, h1, h2⟩ := F.binds1 m j hd hn h
  exact ⟨f, fd, ps, ds, _, G, F.kp, ok, h2, h1, hdd⟩
/-- all parameters given though there are defaults -/
theorem call_full (G : mg x = some (.ref f)) (F : FunD K x qual params body scope dvs kws f fd) (ok : FnOk P w K mg base CX0 k f fd ps (spD ⟨K, C⟩ n S)) (hd : dvs ≠ [])
    (h : ∀ (T : Addr) (kV doc pm : Value) (an : Option Addr) (cdv ct : Value) (us : List Value), us.length = ps.length → bindArgs (PySem.W.fnOf x qual params body scope (.ref T) kV doc pm an cdv ct) ⟨us, []⟩ = pure (ps.zip us)) : CallOk P w K mg base C k x n S [] := by
  obtain ⟨oc, od, dV, kV, doc, pm, an, cdv, ct, osl, e, lk, hcd, hD, hK⟩ := F.ex
  rcases hD with ⟨z, _⟩ | ⟨_, T, o, its, m, e2, lT, oT, rT⟩
  · exact absurd z hd
  · subst e; subst e2
    exact ⟨f, _, ps, [], [], G, F.kp, ok, .all (h T kV doc pm an cdv ct), .nil, rfl⟩
/-- keyword-only defaults fill up -/
theorem call_kwd (dd : List D) (m : Nat) (G : mg x = some (.ref f)) (F : FunD K x qual params body scope [] kws f fd) (ok : FnOk P w K mg base CX0 k f fd ps (spD ⟨K, C⟩ n S)) (hk : kws ≠ []) (hn : m + kws.length = ps.length) (hdd : constL dd = some (kws.map (·.2)))
    (h : ∀ (Dd : Addr) (doc pm : Value) (an : Option Addr) (cdv ct : Value) (us ks : List Value), us.length = m → ks.length = kws.length →
      KwChain Dd ((kws.map (·.1)).zip ks) (bindArgs (PySem.W.fnOf x qual params body scope .none (.ref Dd) doc pm an cdv ct) ⟨us, []⟩) (ps.zip (us ++ ks))) : CallOk P w K mg base C k x n S dd := by
  obtain ⟨ds, h1, h2⟩ := F.binds0 m hk hn h
  exact ⟨f, fd, ps, ds, _, G, F.kp, ok, h2, h1, hdd⟩
/-- keywords: all given; the values in the parameters' order are got by ix out of the positional ones and the keywords' -/
def pickL {α : Type} (ix : List Nat) (us ws : List α) : List α := ix.filterMap fun i => (us ++ ws)[i]?
theorem pick_vals {vs zs : List V} {us ws : List Value} (r : Vals vs us) (s : Vals zs ws) : ∀ ix : List Nat, Vals (pickL ix vs zs) (pickL ix us ws)
  | [] => .nil
  | i :: ix => by
    have a := r.append s
    unfold pickL
    rw [List.filterMap_cons, List.filterMap_cons]
    cases e : (vs ++ zs)[i]? with
    | none => rw [a.none_of e]; exact pick_vals r s ix
    | some v =>
      obtain ⟨u, h1, h2⟩ := a.get e
      rw [h1]
      exact .cons h2 (pick_vals r s ix)
theorem isL_none {G : Gx} {M : Mem} {H : Hp} {ds : List D} {vs : List V} {i : Nat} (l : IsL G M H ds vs) (h : ds[i]? = none) : vs[i]? = none := by
  have e := l.len
  have h2 : ds.length ≤ i := List.getElem?_eq_none_iff.mp h
  exact List.getElem?_eq_none_iff.mpr (by omega)
theorem pick_isL {G : Gx} {M : Mem} {H : Hp} {ds zs : List D} {vs us : List V} (r : IsL G M H ds vs) (s : IsL G M H zs us) : ∀ ix : List Nat, IsL G M H (pickL ix ds zs) (pickL ix vs us)
  | [] => IsL.nil
  | i :: ix => by
    have a := r.append s
    unfold pickL
    rw [List.filterMap_cons, List.filterMap_cons]
    cases e : (ds ++ zs)[i]? with
    | none => rw [isL_none a e]; exact pick_isL r s ix
    | some v =>
      obtain ⟨u, h1, h2⟩ := a.get e
      rw [h1]
      exact IsL.cons h2 (pick_isL r s ix)
theorem call_kw (np : Nat) (ks : List Str) (ix : List Nat) (G : mg x = some (.ref f)) (F : FunD K x qual params body scope [] kws f fd) (ok : FnOk P w K mg base CX0 k f fd ps (spD ⟨K, C⟩ n S))
    (h : ∀ (kV doc pm : Value) (an : Option Addr) (cdv ct : Value) (us ws : List Value), us.length = np → ws.length = ks.length → bindArgs (PySem.W.fnOf x qual params body scope .none kV doc pm an cdv ct) ⟨us, ks.zip ws⟩ = pure (ps.zip (pickL ix us ws))) : KCallOk P w K mg base C k x n S np ks (pickL ix) := by
  obtain ⟨oc, od, dV, kV, doc, pm, an, cdv, ct, osl, e, lk, hcd, hD, hK⟩ := F.ex
  rcases hD with ⟨_, e2⟩ | ⟨z, _⟩
  · subst e; subst e2
    exact ⟨f, _, ps, pickL ix, pickL ix, G, F.kp, ok, ⟨fun s us ws _ l1 l2 => .of_eq (h kV doc pm an cdv ct us ws l1 l2), fun r s => pick_vals r s ix⟩, fun M H ds zs vs us r s => pick_isL r s ix⟩
  · exact absurd rfl z
end
/-! ### the built-ins' names -/
theorem bb_abs : bootBuiltins "abs" = some (.builtin "abs") := by decide +kernel
theorem bb_max : bootBuiltins "max" = some (.builtin "max") := by decide +kernel
theorem bb_min : bootBuiltins "min" = some (.builtin "min") := by decide +kernel
theorem bb_int : bootBuiltins "int" = some (.type "int") := by decide +kernel
theorem bb_len : bootBuiltins "len" = some (.builtin "len") := by decide +kernel
theorem bb_sum : bootBuiltins "sum" = some (.builtin "sum") := by decide +kernel
theorem bb_list : bootBuiltins "list" = some (.type "list") := by decide +kernel
theorem bb_isinstance : bootBuiltins "isinstance" = some (.builtin "isinstance") := by decide +kernel
theorem bb_bool : bootBuiltins "bool" = some (.type "bool") := by decide +kernel
theorem bb_tuple : bootBuiltins "tuple" = some (.type "tuple") := by decide +kernel
theorem bb_str : bootBuiltins "str" = some (.type "str") := by decide +kernel
/-! ### sizes -/
/-- less than n bits -/
def Sm (n : Nat) (x : Int) : Prop := x.natAbs < 2 ^ n
instance (n : Nat) (x : Int) : Decidable (Sm n x) := inferInstanceAs (Decidable (x.natAbs < 2 ^ n))
theorem Sm.mul {a b : Nat} {x y : Int} (hx : Sm a x) (hy : Sm b y) : Sm (a + b) (x * y) := by
  unfold Sm at *
  rw [Int.natAbs_mul, Nat.pow_add]
  exact Nat.mul_lt_mul'' hx hy
theorem Sm.mono {a b : Nat} {x : Int} (hx : Sm a x) (h : a ≤ b) : Sm b x := Nat.lt_of_lt_of_le hx (Nat.pow_le_pow_right (by decide) h)
theorem Sm.add {a : Nat} {x y : Int} (hx : Sm a x) (hy : Sm a y) : Sm (a + 1) (x + y) := by
  unfold Sm at *
  rw [Nat.pow_succ]; omega
theorem Sm.sub {a : Nat} {x y : Int} (hx : Sm a x) (hy : Sm a y) : Sm (a + 1) (x - y) := by
  unfold Sm at *
  rw [Nat.pow_succ]; omega
theorem Sm.neg {a : Nat} {x : Int} (hx : Sm a x) : Sm a (-x) := by unfold Sm at *; omega
theorem Sm.log {a : Nat} {x : Int} (h : Sm a x) (h0 : 0 < a) : x.natAbs.log2 < a := PySem.Flt.log2_lt_of h0 h
theorem Sm.bits {a : Nat} {x : Int} (h : Sm a x) : Builtin.Int.intBits x ≤ a := PyProof.Rows.intBits_le h
theorem mul_ok {a b : Nat} {x y : Int} (hx : Sm a x) (hy : Sm b y) (h : a + b ≤ 134217728) : IntMulOk x y := by
  have h1 := hx.bits
  have h2 := hy.bits
  have e : bitsLine = 134217728 := by decide
  unfold IntMulOk
  intro z
  rw [Bool.and_eq_true] at z
  have z3 := of_decide_eq_true z.2
  rw [e] at z3
  omega
theorem mul_okL {x y : Int} (hx : Sm 64 x) : IntMulOk x y := .of_left (Nat.le_trans hx.bits (Nat.le_refl _))
theorem mul_okR {x y : Int} (hy : Sm 64 y) : IntMulOk x y := .of_right (Nat.le_trans hy.bits (Nat.le_refl _))
theorem cd_ok {a : Nat} {i j : Int} (hj : 0 < j) (h : Sm a j) (h9 : a ≤ 9000) : CD i j := ⟨hj, by
  have h' : Sm 9000 j := h.mono h9
  exact h'.log (by decide)⟩
theorem sm_of {n : Nat} {x : Int} (h1 : -(2 ^ n) < x) (h2 : x < 2 ^ n) : Sm n x := by
  unfold Sm
  have e : ((2 ^ n : Nat) : Int) = 2 ^ n := by simp
  omega
theorem Sm.lt {n : Nat} {x : Int} (h : Sm n x) : x < 2 ^ n := by
  unfold Sm at h
  have e : ((2 ^ n : Nat) : Int) = 2 ^ n := by simp
  omega
theorem Sm.gt {n : Nat} {x : Int} (h : Sm n x) : -(2 ^ n) < x := by
  unfold Sm at h
  have e : ((2 ^ n : Nat) : Int) = 2 ^ n := by simp
  omega
end Dl
namespace Dl
open PySem L2
/-! ### the law's start -/
theorem law_start {K : PySem.W.Frag} {C : Addr} {S : DSp} (hS : ∀ ns : List Int, ns.length ≤ 63 → ∀ (M : Mem) (R : DR) (X : DX), (∀ M', R (.bl true) M') → S [.scr ns] M R X) (H : Hp) (a : Addr) (ns : List Int) (hl : ns.length ≤ 63) (ho : Only H) (hs : SqL K H a (ns.map V.int)) :
    spD ⟨K, C⟩ 1 S [.ref a] H (fun v _ => v = .bl true) fun _ _ _ => False := by
  refine ⟨[.scr ns], fun _ => none, fun d _ => d = .bl true, rfl, IsL.cons ?_ IsL.nil, fun _ _ e => (nomatch e), hS ns hl _ _ _ fun _ => rfl, fun d M' x H' _ i _ e => ?_⟩
  · unfold Is
    refine ⟨a, rfl, ?_⟩
    rcases hs with (h | ⟨o, h⟩) | h
    · rcases ho a with z | ⟨o, xs, z⟩
      · rw [h] at z; cases z
      · rw [h] at z; cases z
    · exact .inl ⟨rfl, o, h⟩
    · exact .inr h
  · subst e
    unfold Is at i
    exact i
def isIntD : D → Bool
  | .int _ => true
  | _ => false
theorem cp1 : CP 10 18 := ⟨by decide, by decide +kernel⟩
theorem cp2 : CP 10 60 := ⟨by decide, by decide +kernel⟩
theorem cp3 : CP (10 ^ (60 : Int).toNat) 10 := ⟨by decide, by decide +kernel⟩
theorem cp3' : CP (10 ^ 60) 10 := ⟨by decide, by decide +kernel⟩
theorem cp4 : CP 10 12 := ⟨by decide, by decide +kernel⟩
theorem cp5 : CP 10 6 := ⟨by decide, by decide +kernel⟩
theorem cp6 : CP 10 15 := ⟨by decide, by decide +kernel⟩
theorem cp7 : CP 10 29 := ⟨by decide, by decide +kernel⟩
theorem cp8 : CP 10 9 := ⟨by decide, by decide +kernel⟩
theorem mulR {x y : Int} (h1 : -18446744073709551616 < y) (h2 : y < 18446744073709551616) : IntMulOk x y := .of_right (intBits_le_64 (Int.lt_of_le_of_lt (by decide +kernel) h1) (Int.lt_of_lt_of_le h2 (by decide +kernel)))
theorem mulL {x y : Int} (h1 : -18446744073709551616 < x) (h2 : x < 18446744073709551616) : IntMulOk x y := .of_left (intBits_le_64 (Int.lt_of_le_of_lt (by decide +kernel) h1) (Int.lt_of_lt_of_le h2 (by decide +kernel)))
/-- // by a small positive divisor -/
theorem sm64 {x : Int} (h1 : -18446744073709551616 < x) (h2 : x < 18446744073709551616) : Sm 64 x := sm_of (Int.lt_of_le_of_lt (by decide +kernel) h1) (Int.lt_of_lt_of_le h2 (by decide +kernel))
theorem cdS {i j : Int} (h1 : 0 < j) (h2 : j < 18446744073709551616) : CD i j := cd_ok (a := 64) h1 (sm64 (by omega) h2) (by decide)
theorem shlS {i j : Int} (hi : Sm 64 i) (h0 : 0 ≤ j) (h1 : j ≤ 1000000) : CShl i j := ⟨h0, by
  have b := hi.bits
  have e : (2 : Int) ^ 27 = 134217728 := by decide
  omega⟩
theorem intsD_take {ns : List Int} {a b : Nat} : intsD (((ns.map D.int).drop a).take b) = some ((ns.drop a).take b) := by
  rw [← List.map_drop, ← List.map_take, intsD_map]
theorem ixN_lit {n : Nat} {i : Int} (h0 : 0 ≤ i) (h1 : i < n) : ixN n i = some i.toNat := by
  unfold ixN; rw [if_pos h0, if_pos h1]
/-! ### the purse of drawn numbers -/
def PurseOk (b : Int) (m : MO) : Prop := ∃ g0 g1 g2 : Int, m = .lst [.int g0, .int g1, .int g2] ∧ 0 ≤ g2 ∧ g2 ≤ b
theorem PurseOk.mono {b c : Int} {m : MO} (h : PurseOk b m) (hb : b ≤ c) : PurseOk c m := let ⟨g0, g1, g2, e, h0, h1⟩ := h; ⟨g0, g1, g2, e, h0, Int.le_trans h1 hb⟩
theorem dom_sw {M : Mem} {a : Addr} {m m' : MO} : ∀ b, (mset M a m b).isSome = true → (mset M a m' b).isSome = true := fun b h => by
  unfold mset at h ⊢
  split
  · rfl
  · rename_i e; rw [if_neg e] at h; exact h
theorem fin_sw {M : Mem} {a : Addr} {m m' : MO} {R : DR} {d : D} (h : R d (mset M a m')) (p : pureD d = true := by rfl) : fin (mset M a m) R d (mset M a m') := ⟨d, _, Sub.refl, dom_sw, .inl ⟨rfl, .inl p⟩, h⟩
theorem mset_eta {M : Mem} {a : Addr} {m : MO} (h : M a = some m) : M = mset M a m := by
  funext b; unfold mset; split
  · rename_i e; rw [e, h]
  · rfl
theorem mset_none {M : Mem} {a p : Addr} {m : MO} (h : mset M a m p = none) : M p = none ∧ p ≠ a := by
  by_cases e : p = a
  · subst e; rw [mset_same] at h; cases h
  · rw [mset_ne e] at h; exact ⟨h, e⟩
end Dl
namespace Dl
open PySem L2
theorem e_vVar (i : Nat) (γ : Gm) (M : Mem) (R : DR) : (vVar i γ M R) = (match gt γ i with
    | some d => R d M
    | none => False) := propext Iff.rfl
theorem e_vC (d : D) (x0_ : Gm) (M : Mem) (R : DR) : (vC d x0_ M R) = (R d M) := propext Iff.rfl
theorem e_vOp (o : DO) (a b : DE) (γ : Gm) (M : Mem) (R : DR) : (vOp o a b γ M R) = (a γ M fun x M1 => b γ M1 fun y M2 => o x y M2 R) := propext Iff.rfl
theorem e_oI (K : Int → Int → Prop) (g : Int → Int → D) (d : D) (e : D) (M : Mem) (R : DR) : (oI K g d e M R) = (match d, e with
    | .int i, .int j => K i j ∧ R (g i j) M
    | _, _ => False) := propext Iff.rfl
theorem e_oI0 (g : Int → Int → D) (d : D) (e : D) (M : Mem) (R : DR) : (oI0 g d e M R) = (match d, e with
    | .int i, .int j => R (g i j) M
    | _, _ => False) := propext Iff.rfl
theorem e_oAdd  (d : D) (e : D) (M : Mem) (R : DR) : (oAdd  d e M R) = (match d, e with
    | .int i, .int j => R (.int (i + j)) M
    | .str i, .str j => i.length + j.length ≤ sizeLine ∧ R (.str (i ++ j)) M
    | d, e => match lstI M d, lstI M e with
      | some xs, some ys => xs.length + ys.length ≤ sizeLine ∧ R (.lst (xs ++ ys)) M
      | _, _ => False) := propext Iff.rfl
theorem e_vNeg (a : DE) (γ : Gm) (M : Mem) (R : DR) : (vNeg a γ M R) = (a γ M fun d M1 => match d with
    | .int i => R (.int (-i)) M1
    | _ => False) := propext Iff.rfl
theorem e_vNil  (x0_ : Gm) (M : Mem) (R : List D → Mem → Prop) : (vNil  x0_ M R) = (R [] M) := propext Iff.rfl
theorem e_vCons (a : DE) (r : DA) (γ : Gm) (M : Mem) (R : List D → Mem → Prop) : (vCons a r γ M R) = (a γ M fun d M1 => r γ M1 fun ds M2 => R (d :: ds) M2) := propext Iff.rfl
theorem e_vTup (a : DA) (γ : Gm) (M : Mem) (R : DR) : (vTup a γ M R) = (a γ M fun ds M1 => ds.length ≤ sizeLine ∧ R (.tup ds) M1) := propext Iff.rfl
theorem e_vLst (a : DA) (γ : Gm) (M : Mem) (R : DR) : (vLst a γ M R) = (a γ M fun ds M1 => ds.length ≤ sizeLine ∧ R (.lst ds) M1) := propext Iff.rfl
theorem e_vLstO (a : DA) (γ : Gm) (M : Mem) (R : DR) : (vLstO a γ M R) = (a γ M fun ds M1 => ds.length ≤ sizeLine ∧ pureL ds = true ∧ ∀ p, M1 p = none → R (.own p) (mset M1 p (.lst ds))) := propext Iff.rfl
theorem e_oIx  (d : D) (e : D) (M : Mem) (R : DR) : (oIx  d e M R) = (match seqI M d, e with
    | some ds, .int i => ∃ x, atI ds i = some x ∧ R x M
    | _, _ => False) := propext Iff.rfl
theorem e_vIxC (n : Nat) (a : DE) (γ : Gm) (M : Mem) (R : DR) : (vIxC n a γ M R) = (a γ M fun d M1 => match seqI M1 d with
    | some ds => (match nthD ds n with
      | some x => R x M1
      | none => False)
    | none => False) := propext Iff.rfl
theorem e_vNoPart  (x0_ : Gm) (M : Mem) (R : Option Int → Mem → Prop) : (vNoPart  x0_ M R) = (R none M) := propext Iff.rfl
theorem e_vPart (a : DE) (γ : Gm) (M : Mem) (R : Option Int → Mem → Prop) : (vPart a γ M R) = (a γ M fun d M1 => match d with
    | .int i => R (some i) M1
    | _ => False) := propext Iff.rfl
theorem e_vSl (a : DE) (l h : DPt) (γ : Gm) (M : Mem) (R : DR) : (vSl a l h γ M R) = (a γ M fun d M1 => l γ M1 fun lo M2 => h γ M2 fun hi M3 => isTup d = false ∧ match seqI M3 d with
    | some ds => R (.lst (cutD ds lo hi)) M3
    | none => False) := propext Iff.rfl
theorem e_oEqG (f : Bool → Bool) (d : D) (e : D) (M : Mem) (R : DR) : (oEqG f d e M R) = (match d, e with
    | .int i, .int j => R (.bl (f (decide (i = j)))) M
    | d, e => match toPt M d, toPt M e with
      | some p, some q => SeqAt.shaped p = true ∧ SeqAt.shaped q = true ∧ R (.bl (f (PyData.eqv p q))) M
      | _, _ => False) := propext Iff.rfl
theorem e_vB (v : DE) (γ : Gm) (M : Mem) (R : Bool → Mem → Prop) : (vB v γ M R) = (v γ M fun d M1 => match d with
    | .bl b => R b M1
    | _ => False) := propext Iff.rfl
theorem e_vChain (o o' : DO) (a b c : DE) (γ : Gm) (M : Mem) (R : DR) : (vChain o o' a b c γ M R) = (a γ M fun x M1 => b γ M1 fun y M2 => o x y M2 fun z M3 => match z with
    | .bl k => (k = true → c γ M3 fun w M4 => o' y w M4 R) ∧ (k = false → R (.bl false) M3)
    | _ => False) := propext Iff.rfl
theorem e_vIsN (f : Bool → Bool) (a : DE) (γ : Gm) (M : Mem) (R : DR) : (vIsN f a γ M R) = (a γ M fun d M1 => R (.bl (f (isNon d))) M1) := propext Iff.rfl
theorem e_vAnd (a b : DT) (γ : Gm) (M : Mem) (R : Bool → Mem → Prop) : (vAnd a b γ M R) = (a γ M fun k M1 => (k = true → b γ M1 R) ∧ (k = false → R false M1)) := propext Iff.rfl
theorem e_vOr (a b : DT) (γ : Gm) (M : Mem) (R : Bool → Mem → Prop) : (vOr a b γ M R) = (a γ M fun k M1 => (k = true → R true M1) ∧ (k = false → b γ M1 R)) := propext Iff.rfl
theorem e_vNot (a : DT) (γ : Gm) (M : Mem) (R : Bool → Mem → Prop) : (vNot a γ M R) = (a γ M fun k M1 => R (!k) M1) := propext Iff.rfl
theorem e_vAndV (a b : DE) (γ : Gm) (M : Mem) (R : DR) : (vAndV a b γ M R) = (a γ M fun d M1 => match d with
    | .bl k => (k = true → b γ M1 R) ∧ (k = false → R (.bl false) M1)
    | _ => False) := propext Iff.rfl
theorem e_vOrV (a b : DE) (γ : Gm) (M : Mem) (R : DR) : (vOrV a b γ M R) = (a γ M fun d M1 => match d with
    | .bl k => (k = true → R (.bl true) M1) ∧ (k = false → b γ M1 R)
    | _ => False) := propext Iff.rfl
theorem e_vNotV (a : DE) (γ : Gm) (M : Mem) (R : DR) : (vNotV a γ M R) = (a γ M fun d M1 => match d with
    | .bl k => R (.bl (!k)) M1
    | _ => False) := propext Iff.rfl
theorem e_vIte (t : DT) (a b : DE) (γ : Gm) (M : Mem) (R : DR) : (vIte t a b γ M R) = (t γ M fun k M1 => (k = true → a γ M1 R) ∧ (k = false → b γ M1 R)) := propext Iff.rfl
theorem e_vCB (o : DC) (a : DA) (γ : Gm) (M : Mem) (R : DR) : (vCB o a γ M R) = (a γ M fun ds M1 => o ds M1 R) := propext Iff.rfl
theorem e_oC1 (g : Int → D) (ds : List D) (M : Mem) (R : DR) : (oC1 g ds M R) = (match ds with
    | [.int i] => R (g i) M
    | _ => False) := propext Iff.rfl
theorem e_oC2 (g : Int → Int → D) (ds : List D) (M : Mem) (R : DR) : (oC2 g ds M R) = (match ds with
    | [.int i, .int j] => R (g i j) M
    | _ => False) := propext Iff.rfl
theorem e_oInt  (ds : List D) (M : Mem) (R : DR) : (oInt  ds M R) = (match ds with
    | [.int i] => R (.int i) M
    | [.bl k] => R (.int (if k then 1 else 0)) M
    | _ => False) := propext Iff.rfl
theorem e_oLen  (ds : List D) (M : Mem) (R : DR) : (oLen  ds M R) = (match ds with
    | [.str y] => y.length ≤ sizeLine ∧ R (.int y.length) M
    | [d] => (match seqI M d with
      | some xs => R (.int xs.length) M
      | none => False)
    | _ => False) := propext Iff.rfl
theorem e_oSum  (ds : List D) (M : Mem) (R : DR) : (oSum  ds M R) = (match ds with
    | [d] => (match intsOf M d with
      | some ns => R (.int ns.sum) M
      | none => False)
    | _ => False) := propext Iff.rfl
theorem e_vIsi (T : Ty) (a : DE) (γ : Gm) (M : Mem) (R : DR) : (vIsi T a γ M R) = (a γ M fun d M1 => match tyM M1 d with
    | some t => R (.bl (t.sub T)) M1
    | none => False) := propext Iff.rfl
theorem e_vBits (a : DE) (γ : Gm) (M : Mem) (R : DR) : (vBits a γ M R) = (a γ M fun d M1 => match d with
    | .int i => R (.int (Builtin.Int.intBits i : Nat)) M1
    | _ => False) := propext Iff.rfl
theorem e_oList  (ds : List D) (M : Mem) (R : DR) : (oList  ds M R) = (match ds with
    | [d] => (match seqI M d with
      | some xs => R (.lst xs) M
      | none => False)
    | _ => False) := propext Iff.rfl
theorem e_oListO  (ds : List D) (M : Mem) (R : DR) : (oListO  ds M R) = (match ds with
    | [d] => (match seqI M d with
      | some xs => pureL xs = true ∧ ∀ p, M p = none → R (.own p) (mset M p (.lst xs))
      | none => False)
    | _ => False) := propext Iff.rfl
theorem e_vCall (n : Nat) (S : DSp) (dd : List D) (a : DA) (γ : Gm) (M : Mem) (R : DR) : (vCall n S dd a γ M R) = (a γ M fun ds M1 => (ds ++ dd).length = n ∧ S (ds ++ dd) M1 R noX) := propext Iff.rfl
theorem e_vCallK (n np nk : Nat) (S : DSp) (pick : List D → List D → List D) (a kw : DA) (γ : Gm) (M : Mem) (R : DR) : (vCallK n np nk S pick a kw γ M R) = (a γ M fun ds M1 => kw γ M1 fun zs M2 => ds.length = np ∧ zs.length = nk ∧ (pick ds zs).length = n ∧ S (pick ds zs) M2 R noX) := propext Iff.rfl
theorem e_vNext  (Ed : DEnds) (γ : Gm) (M : Mem) : (vNext  Ed γ M) = (Ed.nx γ M) := propext Iff.rfl
theorem e_vSeq (a b : DS) (Ed : DEnds) (γ : Gm) (M : Mem) : (vSeq a b Ed γ M) = (a { Ed with nx := b Ed } γ M) := propext Iff.rfl
theorem e_vBreak  (Ed : DEnds) (γ : Gm) (M : Mem) : (vBreak  Ed γ M) = (Ed.bk γ M) := propext Iff.rfl
theorem e_vCont  (Ed : DEnds) (γ : Gm) (M : Mem) : (vCont  Ed γ M) = (Ed.ct γ M) := propext Iff.rfl
theorem e_vDrop (a : DE) (Ed : DEnds) (γ : Gm) (M : Mem) : (vDrop a Ed γ M) = (a γ M fun _ M1 => Ed.nx γ M1) := propext Iff.rfl
theorem e_vRet (a : DE) (Ed : DEnds) (γ : Gm) (M : Mem) : (vRet a Ed γ M) = (a γ M Ed.rt) := propext Iff.rfl
theorem e_vRetN  (Ed : DEnds) (x1_ : Gm) (M : Mem) : (vRetN  Ed x1_ M) = (Ed.rt .non M) := propext Iff.rfl
theorem e_vIf (c : DT) (a b : DS) (Ed : DEnds) (γ : Gm) (M : Mem) : (vIf c a b Ed γ M) = (c γ M fun k M1 => (k = true → a Ed γ M1) ∧ (k = false → b Ed γ M1)) := propext Iff.rfl
theorem e_vNever  (x0_ : DEnds) (x1_ : Gm) (x2_ : Mem) : (vNever  x0_ x1_ x2_) = (False) := propext Iff.rfl
theorem e_dName (i : Nat) (d : D) (γ : Gm) (M : Mem) (R : Gm → Mem → Prop) : (dName i d γ M R) = (R (gset γ i (some d)) M) := propext Iff.rfl
theorem e_dNil  (ds : List D) (γ : Gm) (M : Mem) (R : Gm → Mem → Prop) : (dNil  ds γ M R) = (match ds with
    | [] => R γ M
    | _ => False) := propext Iff.rfl
theorem e_dCons (g : DG) (gs : DGs) (ds : List D) (γ : Gm) (M : Mem) (R : Gm → Mem → Prop) : (dCons g gs ds γ M R) = (match ds with
    | d :: r => g d γ M fun γ' M' => gs r γ' M' R
    | [] => False) := propext Iff.rfl
theorem e_dTup (n : Nat) (gs : DGs) (d : D) (γ : Gm) (M : Mem) (R : Gm → Mem → Prop) : (dTup n gs d γ M R) = (match d with
    | .tup ds => ds.length = n ∧ gs ds γ M R
    | _ => False) := propext Iff.rfl
theorem e_dSub (o i : DE) (d : D) (γ : Gm) (M : Mem) (R : Gm → Mem → Prop) : (dSub o i d γ M R) = (o γ M fun od M1 => i γ M1 fun id M2 => match od, id with
    | .own a, .int k => (match M2 a with
      | some (.lst ds) => pureD d = true ∧ ∃ j, ixN ds.length k = some j ∧ R γ (mset M2 a (.lst (ds.set j d)))
      | _ => False)
    | _, _ => False) := propext Iff.rfl
theorem e_vAsg (a : DE) (g : DG) (Ed : DEnds) (γ : Gm) (M : Mem) : (vAsg a g Ed γ M) = (a γ M fun d M1 => g d γ M1 Ed.nx) := propext Iff.rfl
theorem e_vPar (i j : Nat) (a : DA) (Ed : DEnds) (γ : Gm) (M : Mem) : (vPar i j a Ed γ M) = (a γ M fun ds M1 => match ds with
    | [x, y] => Ed.nx (gset (gset γ i (some x)) j (some y)) M1
    | _ => False) := propext Iff.rfl
theorem e_vAug (i : Nat) (f : Int → Int → Int) (a : DE) (Ed : DEnds) (γ : Gm) (M : Mem) : (vAug i f a Ed γ M) = (match gt γ i with
    | some (.int x) => a γ M fun d M1 => (match d with
      | .int y => Ed.nx (gset γ i (some (.int (f x y)))) M1
      | _ => False)
    | _ => False) := propext Iff.rfl
theorem e_vWhile (c : DT) (b : DS) (Ed : DEnds) (γ : Gm) (M : Mem) : (vWhile c b Ed γ M) = (∃ W : Nat → Gm → Mem → Prop, (∃ m, W m γ M) ∧ ∀ m γ' M', W m γ' M' →
    c γ' M' fun k M1 => (k = true → b { Ed with nx := fun γ2 M2 => ∃ m2, m2 < m ∧ W m2 γ2 M2, ct := fun γ2 M2 => ∃ m2, m2 < m ∧ W m2 γ2 M2, bk := Ed.nx } γ' M1) ∧ (k = false → Ed.nx γ' M1)) := propext Iff.rfl
theorem e_wList (a : DE) (γ : Gm) (M : Mem) (R : ItD → Mem → Prop) : (wList a γ M R) = (a γ M fun d M1 => match isTup d, seqI M1 d with
    | false, some ds => R (liD d ds) M1
    | _, _ => False) := propext Iff.rfl
theorem e_wTup (a : DE) (γ : Gm) (M : Mem) (R : ItD → Mem → Prop) : (wTup a γ M R) = (a γ M fun d M1 => match d with
    | .tup ds => R ⟨ds, fun _ => True⟩ M1
    | _ => False) := propext Iff.rfl
theorem e_wRng1 (a : DA) (γ : Gm) (M : Mem) (R : ItD → Mem → Prop) : (wRng1 a γ M R) = (a γ M fun ds M1 => match ds with
    | [.int j] => -(2 ^ 62) ≤ j ∧ j < 2 ^ 62 ∧ R ⟨rngD 0 j.toNat, fun _ => True⟩ M1
    | _ => False) := propext Iff.rfl
theorem e_wRng2 (a : DA) (γ : Gm) (M : Mem) (R : ItD → Mem → Prop) : (wRng2 a γ M R) = (a γ M fun ds M1 => match ds with
    | [.int i, .int j] => R ⟨rngD i (j - i).toNat, fun _ => True⟩ M1
    | _ => False) := propext Iff.rfl
theorem e_vFor (w : DI) (g : DG) (b : DS) (Ed : DEnds) (γ : Gm) (M : Mem) : (vFor w g b Ed γ M) = (w γ M fun j M1 => ∃ W : Nat → Gm → Mem → Prop, W 0 γ M1 ∧ (∀ i γ' M', W i γ' M' → j.st M') ∧
    (∀ i d γ' M', W i γ' M' → j.its[i]? = some d → g d γ' M' fun γ2 M2 => b { Ed with nx := W (i + 1), ct := W (i + 1), bk := Ed.nx } γ2 M2) ∧ (∀ γ' M', W j.its.length γ' M' → Ed.nx γ' M')) := propext Iff.rfl
theorem e_vYes  (x0_ : Gm) (M : Mem) (R : Bool → Mem → Prop) : (vYes  x0_ M R) = (R true M) := propext Iff.rfl
theorem e_vLc (w : DI) (g : DG) (t : DT) (e : DE) (vs : List Nat) (γ : Gm) (M : Mem) (R : DR) : (vLc w g t e vs γ M R) = (w γ M fun j M1 => ∀ p, M1 p = none → ∃ W : Nat → List D → Mem → Prop, W 0 [] M1 ∧
    (∀ i acc M', W i acc M' → M' p = none ∧ acc.length < sizeLine ∧ j.st (mset M' p (.lst acc))) ∧
    (∀ i acc M' d, W i acc M' → j.its[i]? = some d → g d (gwipe γ vs) (mset M' p (.lst acc)) fun γ2 M2 => t γ2 M2 fun b M3 =>
      (b = true → e γ2 M3 fun y M4 => pureD y = true ∧ ∃ M5, M4 = mset M5 p (.lst acc) ∧ W (i + 1) (acc ++ [y]) M5) ∧ (b = false → ∃ M5, M3 = mset M5 p (.lst acc) ∧ W (i + 1) acc M5)) ∧
    (∀ acc M', W j.its.length acc M' → R (.lst acc) M')) := propext Iff.rfl
theorem e_vAppend (o e : DE) (γ : Gm) (M : Mem) (R : DR) : (vAppend o e γ M R) = (o γ M fun od M1 => match od with
    | .own a => lstAt M1 a = true ∧ e γ M1 fun d M2 => (match M2 a with
      | some (.lst ds) => pureD d = true ∧ ds.length < sizeLine ∧ R .non (mset M2 a (.lst (ds ++ [d])))
      | _ => False)
    | _ => False) := propext Iff.rfl
theorem e_frt (M : Mem) (R : DR) : (fEnds M R).rt = fin M R := id rfl
theorem e_fnx (M : Mem) (R : DR) : (fEnds M R).nx = fun _ M2 => fin M R .non M2 := id rfl
theorem e_fbk (M : Mem) (R : DR) : (fEnds M R).bk = fun _ _ => False := id rfl
theorem e_fct (M : Mem) (R : DR) : (fEnds M R).ct = fun _ _ => False := id rfl
end Dl
namespace Dl
open PySem L2
/-! ### equations at known data -/
section
variable {M : Mem} {R : DR} {i j : Int} {xs ys ds : List D} {x y : Str} {a b : Addr} {k l : Bool}
theorem f_oI {K : Int → Int → Prop} {g : Int → Int → D} : oI K g (.int i) (.int j) M R = (K i j ∧ R (g i j) M) := propext Iff.rfl
theorem f_oI0 {g : Int → Int → D} : oI0 g (.int i) (.int j) M R = R (g i j) M := propext Iff.rfl
theorem f_addI : oAdd (.int i) (.int j) M R = R (.int (i + j)) M := propext Iff.rfl
theorem f_addS : oAdd (.str x) (.str y) M R = (x.length + y.length ≤ sizeLine ∧ R (.str (x ++ y)) M) := propext Iff.rfl
theorem f_addLL : oAdd (.lst xs) (.lst ys) M R = (xs.length + ys.length ≤ sizeLine ∧ R (.lst (xs ++ ys)) M) := propext Iff.rfl
theorem f_addOL : oAdd (.own a) (.lst ys) M R = (match M a with | some (.lst xs) => xs.length + ys.length ≤ sizeLine ∧ R (.lst (xs ++ ys)) M | _ => False) := by
  cases h : M a with
  | none => simp only [oAdd, lstI, h]
  | some m => cases m <;> simp only [oAdd, lstI, h]
theorem f_addLO : oAdd (.lst xs) (.own a) M R = (match M a with | some (.lst ys) => xs.length + ys.length ≤ sizeLine ∧ R (.lst (xs ++ ys)) M | _ => False) := by
  cases h : M a with
  | none => simp only [oAdd, lstI, h]
  | some m => cases m <;> simp only [oAdd, lstI, h]
theorem f_eqI {f : Bool → Bool} : oEqG f (.int i) (.int j) M R = R (.bl (f (decide (i = j)))) M := propext Iff.rfl
theorem shaped_bl (b : Bool) : SeqAt.shaped (.bool b) = true := by cases b <;> decide +kernel
theorem shaped_non : SeqAt.shaped .none = true := by decide +kernel
theorem f_eqB {f : Bool → Bool} : oEqG f (.bl k) (.bl l) M R = R (.bl (f (k == l))) M := by
  show (SeqAt.shaped (.bool k) = true ∧ SeqAt.shaped (.bool l) = true ∧ R (.bl (f (PyData.eqv (.bool k) (.bool l)))) M) = _
  rw [shaped_bl, shaped_bl]
  simp only [true_and]
  exact propext Iff.rfl
theorem f_eqNI {f : Bool → Bool} : oEqG f .non (.int j) M R = R (.bl (f false)) M := by
  show (SeqAt.shaped .none = true ∧ SeqAt.shaped (.int j) = true ∧ R (.bl (f (PyData.eqv .none (.int j)))) M) = _
  rw [shaped_non, shaped_int]
  simp only [true_and]
  exact propext Iff.rfl
theorem f_eqIN {f : Bool → Bool} : oEqG f (.int j) .non M R = R (.bl (f false)) M := by
  show (SeqAt.shaped (.int j) = true ∧ SeqAt.shaped .none = true ∧ R (.bl (f (PyData.eqv (.int j) .none))) M) = _
  rw [shaped_non, shaped_int]
  simp only [true_and]
  exact propext Iff.rfl
theorem f_eqNN {f : Bool → Bool} : oEqG f .non .non M R = R (.bl (f true)) M := by
  show (SeqAt.shaped .none = true ∧ SeqAt.shaped .none = true ∧ R (.bl (f (PyData.eqv .none .none))) M) = _
  rw [shaped_non]
  simp only [true_and]
  exact propext Iff.rfl
theorem f_ixL : oIx (.lst xs) (.int i) M R = (∃ x, atI xs i = some x ∧ R x M) := propext Iff.rfl
theorem f_ixT : oIx (.tup xs) (.int i) M R = (∃ x, atI xs i = some x ∧ R x M) := propext Iff.rfl
theorem f_ixS {ns : List Int} : oIx (.scr ns) (.int i) M R = (∃ x, atI (ns.map D.int) i = some x ∧ R x M) := propext Iff.rfl
theorem f_ixO : oIx (.own a) (.int i) M R = (match M a with | some (.lst xs) => (∃ x, atI xs i = some x ∧ R x M) | _ => False) := by
  cases h : M a with
  | none => simp only [oIx, seqI, h]
  | some m => cases m <;> simp only [oIx, seqI, h]
theorem f_C1 {g : Int → D} : oC1 g [.int i] M R = R (g i) M := propext Iff.rfl
theorem f_C2 {g : Int → Int → D} : oC2 g [.int i, .int j] M R = R (g i j) M := propext Iff.rfl
theorem f_intI : oInt [.int i] M R = R (.int i) M := propext Iff.rfl
theorem f_intB : oInt [.bl k] M R = R (.int (if k then 1 else 0)) M := propext Iff.rfl
theorem f_lenS : oLen [.str x] M R = (x.length ≤ sizeLine ∧ R (.int x.length) M) := propext Iff.rfl
theorem f_lenL : oLen [.lst xs] M R = R (.int xs.length) M := propext Iff.rfl
theorem f_lenT : oLen [.tup xs] M R = R (.int xs.length) M := propext Iff.rfl
theorem f_lenC {ns : List Int} : oLen [.scr ns] M R = R (.int (ns.map D.int).length) M := propext Iff.rfl
theorem f_lenO : oLen [.own a] M R = (match M a with | some (.lst xs) => R (.int xs.length) M | _ => False) := by
  cases h : M a with
  | none => simp only [oLen, seqI, h]
  | some m => cases m <;> simp only [oLen, seqI, h]
theorem f_listL : oList [.lst xs] M R = R (.lst xs) M := propext Iff.rfl
theorem f_listT : oList [.tup xs] M R = R (.lst xs) M := propext Iff.rfl
theorem f_listOL : oListO [.lst xs] M R = (pureL xs = true ∧ ∀ p, M p = none → R (.own p) (mset M p (.lst xs))) := propext Iff.rfl
theorem f_listOT : oListO [.tup xs] M R = (pureL xs = true ∧ ∀ p, M p = none → R (.own p) (mset M p (.lst xs))) := propext Iff.rfl
theorem f_sumL : oSum [.lst xs] M R = (match intsD xs with | some ns => R (.int ns.sum) M | none => False) := propext Iff.rfl
theorem f_sqL : seqI M (.lst xs) = some xs := id rfl
theorem f_sqT : seqI M (.tup xs) = some xs := id rfl
theorem f_sqC {ns : List Int} : seqI M (.scr ns) = some (ns.map D.int) := id rfl
theorem f_sqO : seqI M (.own a) = (match M a with | some (.lst xs) => some xs | _ => none) := id rfl
theorem f_itL : isTup (.lst xs) = false := id rfl
theorem f_itT : isTup (.tup xs) = true := id rfl
theorem f_itC {ns : List Int} : isTup (.scr ns) = false := id rfl
theorem f_itO : isTup (.own a) = false := id rfl
theorem f_tyN : tyD .non = some .non := id rfl
theorem f_tyB : tyD (.bl k) = some .bl := id rfl
theorem f_tyI : tyD (.int i) = some .int := id rfl
theorem f_tyS : tyD (.str x) = some .str := id rfl
theorem f_tyT : tyD (.tup xs) = some .tup := id rfl
theorem f_tyL : tyD (.lst xs) = some .lst := id rfl
theorem f_tyO : tyD (.own a) = none := id rfl
theorem f_tmN : tyM M .non = some .non := id rfl
theorem f_tmB : tyM M (.bl k) = some .bl := id rfl
theorem f_tmI : tyM M (.int i) = some .int := id rfl
theorem f_tmS : tyM M (.str x) = some .str := id rfl
theorem f_tmT : tyM M (.tup xs) = some .tup := id rfl
theorem f_tmL : tyM M (.lst xs) = some .lst := id rfl
theorem f_tmD {ks : List Key} : tyM M (.dct ks xs) = some .dct := id rfl
theorem f_tmO : tyM M (.own a) = (match M a with | some (.lst _) => some .lst | some (.dct _ _) => some .dct | _ => none) := id rfl
theorem f_nN : isNon .non = true := id rfl
theorem f_nB : isNon (.bl k) = false := id rfl
theorem f_nI : isNon (.int i) = false := id rfl
theorem f_nS : isNon (.str x) = false := id rfl
theorem f_nT : isNon (.tup xs) = false := id rfl
theorem f_nL : isNon (.lst xs) = false := id rfl
theorem f_nO : isNon (.own a) = false := id rfl
theorem f_nLn {t p o : Int} : isNon (.ln t p o) = false := id rfl
theorem f_wN : isIntD .non = false := id rfl
theorem f_wB : isIntD (.bl k) = false := id rfl
theorem f_wI : isIntD (.int i) = true := id rfl
theorem f_wS : isIntD (.str x) = false := id rfl
theorem f_wT : isIntD (.tup xs) = false := id rfl
theorem f_wL : isIntD (.lst xs) = false := id rfl
theorem f_wO : isIntD (.own a) = false := id rfl
end
/-! ### comprehensions, by words -/
/-- the element may change one owned thing -/
theorem lc_state {j : ItD} {g : DG} {t : DT} {e : DE} {vs : List Nat} {γ : Gm} {M : Mem} {a : Addr} {m : MO} {R : DR} (Pm : Nat → MO → Prop) (Pa : Nat → List D → Prop) (h0 : Pm 0 m) (a0 : Pa 0 [])
    (hl : ∀ i acc, Pa i acc → acc.length < sizeLine)
    (step : ∀ i acc m' d p, p ≠ a → Pm i m' → Pa i acc → j.its[i]? = some d → g d (gwipe γ vs) (mset (mset M p (.lst acc)) a m') fun γ2 M2 => t γ2 M2 fun b M3 =>
      (b = true → e γ2 M3 fun y M4 => pureD y = true ∧ ∃ M5, M4 = mset M5 p (.lst acc) ∧ ∃ m2, M5 = mset M a m2 ∧ Pm (i + 1) m2 ∧ Pa (i + 1) (acc ++ [y])) ∧ (b = false → ∃ M5, M3 = mset M5 p (.lst acc) ∧ ∃ m2, M5 = mset M a m2 ∧ Pm (i + 1) m2 ∧ Pa (i + 1) acc))
    (hR : ∀ acc m', Pm j.its.length m' → Pa j.its.length acc → R (.lst acc) (mset M a m')) (hst : ∀ M', j.st M' := by exact fun _ => trivial) :
    ∀ p, mset M a m p = none → ∃ W : Nat → List D → Mem → Prop, W 0 [] (mset M a m) ∧
      (∀ i acc M', W i acc M' → M' p = none ∧ acc.length < sizeLine ∧ j.st (mset M' p (.lst acc))) ∧
      (∀ i acc M' d, W i acc M' → j.its[i]? = some d → g d (gwipe γ vs) (mset M' p (.lst acc)) fun γ2 M2 => t γ2 M2 fun b M3 =>
        (b = true → e γ2 M3 fun y M4 => pureD y = true ∧ ∃ M5, M4 = mset M5 p (.lst acc) ∧ W (i + 1) (acc ++ [y]) M5) ∧ (b = false → ∃ M5, M3 = mset M5 p (.lst acc) ∧ W (i + 1) acc M5)) ∧
      (∀ acc M', W j.its.length acc M' → R (.lst acc) M') := by
  intro p hp
  obtain ⟨hp, hne⟩ := mset_none hp
  refine ⟨fun i acc M' => ∃ m', M' = mset M a m' ∧ Pm i m' ∧ Pa i acc, ⟨m, rfl, h0, a0⟩, ?_, ?_, ?_⟩
  · rintro i acc M' ⟨m', rfl, hm, ha⟩
    exact ⟨by rw [mset_ne hne]; exact hp, hl i acc ha, hst _⟩
  · rintro i acc M' d ⟨m', rfl, hm, ha⟩ hd
    rw [mset_comm hne.symm]
    exact step i acc m' d p hne hm ha hd
  · rintro acc M' ⟨m', rfl, hm, ha⟩
    exact hR acc m' hm ha
theorem lc_close {M : Mem} {a p : Addr} {m : MO} {acc : List D} {P Q : Prop} {Pm : MO → Prop} (h : p ≠ a) (h1 : Pm m) (h2 : Q) : ∃ M5, mset (mset M p (.lst acc)) a m = mset M5 p (.lst acc) ∧ ∃ m2, M5 = mset M a m2 ∧ Pm m2 ∧ Q :=
  ⟨mset M a m, mset_comm h, m, rfl, h1, h2⟩
theorem lc_rng {lo : Int} {n : Nat} {g : DG} {t : DT} {e : DE} {vs : List Nat} {γ : Gm} {M : Mem} {a : Addr} {m : MO} {R : DR} (Pm : Nat → MO → Prop) (Pa : Nat → List D → Prop) (h0 : Pm 0 m) (a0 : Pa 0 [])
    (hl : ∀ i acc, Pa i acc → acc.length < sizeLine)
    (step : ∀ i acc m' p, p ≠ a → Pm i m' → Pa i acc → i < n → g (.int (lo + (i : Int))) (gwipe γ vs) (mset (mset M p (.lst acc)) a m') fun γ2 M2 => t γ2 M2 fun b M3 =>
      (b = true → e γ2 M3 fun y M4 => pureD y = true ∧ ∃ M5, M4 = mset M5 p (.lst acc) ∧ ∃ m2, M5 = mset M a m2 ∧ Pm (i + 1) m2 ∧ Pa (i + 1) (acc ++ [y])) ∧ (b = false → ∃ M5, M3 = mset M5 p (.lst acc) ∧ ∃ m2, M5 = mset M a m2 ∧ Pm (i + 1) m2 ∧ Pa (i + 1) acc))
    (hR : ∀ acc m', Pm n m' → Pa n acc → R (.lst acc) (mset M a m')) :
    ∀ p, mset M a m p = none → ∃ W : Nat → List D → Mem → Prop, W 0 [] (mset M a m) ∧
      (∀ i acc M', W i acc M' → M' p = none ∧ acc.length < sizeLine ∧ (⟨rngD lo n, fun _ => True⟩ : ItD).st (mset M' p (.lst acc))) ∧
      (∀ i acc M' d, W i acc M' → (⟨rngD lo n, fun _ => True⟩ : ItD).its[i]? = some d → g d (gwipe γ vs) (mset M' p (.lst acc)) fun γ2 M2 => t γ2 M2 fun b M3 =>
        (b = true → e γ2 M3 fun y M4 => pureD y = true ∧ ∃ M5, M4 = mset M5 p (.lst acc) ∧ W (i + 1) (acc ++ [y]) M5) ∧ (b = false → ∃ M5, M3 = mset M5 p (.lst acc) ∧ W (i + 1) acc M5)) ∧
      (∀ acc M', W (⟨rngD lo n, fun _ => True⟩ : ItD).its.length acc M' → R (.lst acc) M') :=
  lc_state (j := ⟨rngD lo n, fun _ => True⟩) Pm Pa h0 a0 hl (fun i acc m' d p hne hm ha hd => by
    obtain ⟨hi, rfl⟩ := (rngD_get _ _ _ _).mp hd
    exact step i acc m' p hne hm ha hi) (fun acc m' hm ha => by
    have e : (⟨rngD lo n, fun _ => True⟩ : ItD).its.length = n := rngD_len lo n
    rw [e] at hm ha
    exact hR acc m' hm ha) (fun _ => trivial)
theorem vlc_rng1 {va : DA} {g : DG} {t : DT} {e : DE} {vs : List Nat} {γ : Gm} {M : Mem} {a : Addr} {m : MO} {R : DR} (k : Int) (hva : ∀ F : List D → Mem → Prop, F [.int k] (mset M a m) → va γ (mset M a m) F) (hk0 : -4611686018427387904 ≤ k) (hk1 : k < 4611686018427387904)
    (Pm : Nat → MO → Prop) (Pa : Nat → List D → Prop) (h0 : Pm 0 m) (a0 : Pa 0 []) (hl : ∀ i acc, Pa i acc → acc.length < sizeLine)
    (step : ∀ i acc m' p, p ≠ a → Pm i m' → Pa i acc → i < k.toNat → g (.int (i : Int)) (gwipe γ vs) (mset (mset M p (.lst acc)) a m') fun γ2 M2 => t γ2 M2 fun b M3 =>
      (b = true → e γ2 M3 fun y M4 => pureD y = true ∧ ∃ M5, M4 = mset M5 p (.lst acc) ∧ ∃ m2, M5 = mset M a m2 ∧ Pm (i + 1) m2 ∧ Pa (i + 1) (acc ++ [y])) ∧ (b = false → ∃ M5, M3 = mset M5 p (.lst acc) ∧ ∃ m2, M5 = mset M a m2 ∧ Pm (i + 1) m2 ∧ Pa (i + 1) acc))
    (hR : ∀ acc m', Pm k.toNat m' → Pa k.toNat acc → R (.lst acc) (mset M a m')) : vLc (wRng1 va) g t e vs γ (mset M a m) R :=
  hva _ ⟨hk0, hk1, lc_rng Pm Pa h0 a0 hl (fun i acc m' p hne hm ha hi => by rw [Int.zero_add]; exact step i acc m' p hne hm ha hi) hR⟩
theorem vfor_rng1 {va : DA} {g : DG} {b : DS} {Ed : DEnds} {γ : Gm} {M : Mem} (k : Int) (hva : ∀ F : List D → Mem → Prop, F [.int k] M → va γ M F) (hk0 : -4611686018427387904 ≤ k) (hk1 : k < 4611686018427387904) (W : Nat → Gm → Mem → Prop) (h0 : W 0 γ M)
    (step : ∀ i γ' M', W i γ' M' → i < k.toNat → g (.int (i : Int)) γ' M' fun γ2 M2 => b { Ed with nx := W (i + 1), ct := W (i + 1), bk := Ed.nx } γ2 M2) (hd : ∀ γ' M', W k.toNat γ' M' → Ed.nx γ' M') : vFor (wRng1 va) g b Ed γ M :=
  hva _ ⟨hk0, hk1, W, h0, fun _ _ _ _ => trivial, fun i d γ' M' w hq => by
    obtain ⟨hlt, rfl⟩ := (rngD_get _ _ _ _).mp hq
    rw [Int.zero_add]
    exact step i γ' M' w hlt, fun γ' M' w => by
    have e : (rngD 0 k.toNat).length = k.toNat := rngD_len 0 k.toNat
    exact hd γ' M' (by rw [← e]; exact w)⟩
theorem vfor_list {ve : DE} {g : DG} {b : DS} {Ed : DEnds} {γ : Gm} {M M1 : Mem} (ds : List D) (hve : ∀ F : DR, F (.lst ds) M1 → ve γ M F) (W : Nat → Gm → Mem → Prop) (h0 : W 0 γ M1)
    (step : ∀ i d γ' M', W i γ' M' → ds[i]? = some d → g d γ' M' fun γ2 M2 => b { Ed with nx := W (i + 1), ct := W (i + 1), bk := Ed.nx } γ2 M2) (hd : ∀ γ' M', W ds.length γ' M' → Ed.nx γ' M') : vFor (wList ve) g b Ed γ M :=
  hve _ ⟨W, h0, fun _ _ _ _ => rfl, step, hd⟩
theorem vWhile_of {c : DT} {b : DS} {Ed : DEnds} {γ : Gm} {M : Mem} (W : Nat → Gm → Mem → Prop) (h0 : ∃ m, W m γ M)
    (h : ∀ m γ' M', W m γ' M' → c γ' M' fun k M1 => (k = true → b { Ed with nx := fun γ2 M2 => ∃ m2, m2 < m ∧ W m2 γ2 M2, ct := fun γ2 M2 => ∃ m2, m2 < m ∧ W m2 γ2 M2, bk := Ed.nx } γ' M1) ∧ (k = false → Ed.nx γ' M1)) : vWhile c b Ed γ M := ⟨W, h0, h⟩
end Dl
namespace Dl
open PySem L2
/-! ### list(range(..)) -/
section
variable {X : Cx} {C : Addr} {e e2 : Expr} {ve vb : DE} {pos : Pos}
theorem isL_rg {G : Gx} {M : Mem} {H : Hp} (a b : Int) : IsL G M H (rngD a (b - a).toNat) (rgV a b) := by
  have key : ∀ n : Nat, IsL G M H ((List.range n).map fun (i : Nat) => D.int (a + (i : Int))) ((List.range n).map fun i => V.int (a + (i : Nat))) := by
    intro n
    induction n with
    | zero => exact IsL.nil
    | succ k ih =>
      rw [List.range_succ, List.map_append, List.map_append]
      exact ih.append (IsL.cons is_int IsL.nil)
  exact key _
def vLRg1 (a : DE) : DE := fun γ M R => a γ M fun d M1 => match d with
  | .int n => RgOk 0 n ∧ R (.lst (rngD 0 n.toNat)) M1
  | _ => False
def vLRg2 (a b : DE) : DE := fun γ M R => a γ M fun d M1 => b γ M1 fun f M2 => match d, f with
  | .int i, .int j => RgOk i j ∧ R (.lst (rngD i (j - i).toNat)) M2
  | _, _ => False
theorem q_lrg1 {p q p2 : Pos} (hm : X.mg "list" = none) (hm2 : X.mg "range" = none) (he : QE X C e ve) (hg : Gl X "list" := by rfl) (hg2 : Gl X "range" := by rfl) (hc : X.calm = true := by rfl)
    (na : starEach [e] X.env = (false, eval e X.env) :: starEach [] X.env := by rfl) (nb : starEach [.Call (.Name "range" p2) [e] [] q] X.env = (false, eval (.Call (.Name "range" p2) [e] [] q) X.env) :: starEach [] X.env := by rfl) :
    QE X C (.Call (.Name "list" p) [.Call (.Name "range" p2) [e] [] q] [] pos) (vLRg1 ve) := by
  obtain ⟨t, pt, s⟩ := he.ex
  refine ⟨_, pe_listRg hc hg hm (prg_1 hg2 hm2 pt na) nb, fun γ M R σ H Q r h k => s γ M _ σ H _ r h fun d M1 x H1 o1 i1 e1 h1 => ?_⟩
  cases d with
  | int n =>
    unfold Is at i1
    have e0 : (n - 0).toNat = n.toNat := by rw [Int.sub_zero]
    refine ⟨n, i1, h1.1, fun l hl => k _ M1 _ _ (o1.new hl) (new_lst o1 hl ?_) (e1.trans (Ext.new hl)) h1.2⟩
    rw [← e0]
    exact isL_rg 0 n
  | _ => exact False.elim h1
theorem q_lrg2 {p q p2 : Pos} (hm : X.mg "list" = none) (hm2 : X.mg "range" = none) (he : QE X C e ve) (hb : QE X C e2 vb) (hg : Gl X "list" := by rfl) (hg2 : Gl X "range" := by rfl) (hc : X.calm = true := by rfl)
    (hpe : ∀ {ta tb : TE}, PE X e ta → PE X e2 tb → PE X (.Call (.Name "list" p) [.Call (.Name "range" p2) [e, e2] [] q] [] pos) (tLstRg (tRg2 ta tb)) := by exact fun h1 h2 => pe_listRg (by rfl) (by rfl) (by assumption) (prg_2 (by rfl) (by assumption) h1 h2)) :
    QE X C (.Call (.Name "list" p) [.Call (.Name "range" p2) [e, e2] [] q] [] pos) (vLRg2 ve vb) := by
  obtain ⟨t, pt, s⟩ := he.ex
  obtain ⟨t2, pt2, s2⟩ := hb.ex
  refine ⟨_, hpe pt pt2, fun γ M R σ H Q r h k => s γ M _ σ H _ r h fun d M1 x H1 o1 i1 e1 h1 => s2 γ M1 _ σ H1 _ (r.mk' e1 o1) h1 fun f M2 y H2 o2 i2 e2 h2 => ?_⟩
  cases d with
  | int i =>
    cases f with
    | int j =>
      unfold Is at i1 i2
      exact ⟨i, j, i1, i2, h2.1, fun l hl => k _ M2 _ _ (o2.new hl) (new_lst o2 hl (isL_rg i j)) ((e1.trans e2).trans (Ext.new hl)) h2.2⟩
    | _ => exact False.elim h2
  | _ => exact False.elim h2
theorem e_vLRg1 (a : DE) (γ : Gm) (M : Mem) (R : DR) : vLRg1 a γ M R = (a γ M fun d M1 => match d with
  | .int n => RgOk 0 n ∧ R (.lst (rngD 0 n.toNat)) M1
  | _ => False) := propext Iff.rfl
theorem e_vLRg2 (a b : DE) (γ : Gm) (M : Mem) (R : DR) : vLRg2 a b γ M R = (a γ M fun d M1 => b γ M1 fun f M2 => match d, f with
  | .int i, .int j => RgOk i j ∧ R (.lst (rngD i (j - i).toNat)) M2
  | _, _ => False) := propext Iff.rfl
theorem pure_ints (ns : List Int) : pureL (ns.map D.int) = true := by
  induction ns with
  | nil => rfl
  | cons n r ih => show (true && pureL (r.map D.int)) = true; rw [ih]; rfl
theorem rngD_eq (lo : Int) (n : Nat) : rngD lo n = ((List.range n).map fun (i : Nat) => lo + (i : Int)).map D.int := by
  unfold rngD; rw [List.map_map]; rfl
end
theorem Sub.more {M M' : Mem} {p : Addr} {m : MO} (h : Sub M M') (hp : M' p = none) : Sub M (mset M' p m) := fun a n e => Sub.set hp a n (h a n e)
theorem cut_to (xs : List D) (k : Int) (h : 0 ≤ k) : cutD xs none (some k) = xs.take k.toNat := by
  obtain ⟨k, rfl⟩ := Int.eq_ofNat_of_zero_le h
  unfold cutD
  rw [HT.sIx_none, HT.sIx_nat, Int.toNat_natCast]
  simp only [List.drop_zero, Nat.sub_zero]
  rcases Nat.le_total k xs.length with h | h
  · rw [Nat.min_eq_left h]
  · rw [Nat.min_eq_right h, List.take_of_length_le (Nat.le_refl _), List.take_of_length_le h]
theorem cut_from (xs : List D) (k : Int) (h : 0 ≤ k) : cutD xs (some k) none = xs.drop k.toNat := by
  obtain ⟨k, rfl⟩ := Int.eq_ofNat_of_zero_le h
  unfold cutD
  rw [HT.sIx_none, HT.sIx_nat, Int.toNat_natCast]
  rcases Nat.le_total k xs.length with h | h
  · rw [Nat.min_eq_left h]
    exact List.take_of_length_le (by rw [List.length_drop]; exact Nat.le_refl _)
  · rw [Nat.min_eq_right h, List.drop_of_length_le (Nat.le_refl _), List.drop_of_length_le h]
    simp
theorem cut_mid (xs : List D) (i j : Int) (hi : 0 ≤ i) (hj : 0 ≤ j) : cutD xs (some i) (some j) = (xs.drop i.toNat).take (j.toNat - i.toNat) := by
  obtain ⟨i, rfl⟩ := Int.eq_ofNat_of_zero_le hi
  obtain ⟨j, rfl⟩ := Int.eq_ofNat_of_zero_le hj
  unfold cutD
  rw [HT.sIx_nat, HT.sIx_nat, Int.toNat_natCast, Int.toNat_natCast]
  rcases Nat.le_total i xs.length with h | h
  · rw [Nat.min_eq_left h]
    rcases Nat.le_total j xs.length with h2 | h2
    · rw [Nat.min_eq_left h2]
    · rw [Nat.min_eq_right h2, List.take_of_length_le, List.take_of_length_le]
      · rw [List.length_drop]; omega
      · rw [List.length_drop]; omega
  · rw [Nat.min_eq_right h, List.drop_of_length_le (Nat.le_refl _), List.drop_of_length_le h]
    simp
theorem ints_get {zs : List Int} {i : Nat} {d : D} (h : (zs.map D.int)[i]? = some d) : ∃ z, z ∈ zs ∧ d = .int z := by
  rw [List.getElem?_map] at h
  cases e : zs[i]? with
  | none => rw [e] at h; simp at h
  | some z => rw [e] at h; simp at h; exact ⟨z, List.mem_of_getElem? e, h.symm⟩
theorem vfor_tup {ve : DE} {g : DG} {b : DS} {Ed : DEnds} {γ : Gm} {M M1 : Mem} (ds : List D) (hve : ∀ F : DR, F (.tup ds) M1 → ve γ M F) (W : Nat → Gm → Mem → Prop) (h0 : W 0 γ M1)
    (step : ∀ i d γ' M', W i γ' M' → ds[i]? = some d → g d γ' M' fun γ2 M2 => b { Ed with nx := W (i + 1), ct := W (i + 1), bk := Ed.nx } γ2 M2) (hd : ∀ γ' M', W ds.length γ' M' → Ed.nx γ' M') : vFor (wTup ve) g b Ed γ M :=
  hve _ ⟨W, h0, fun _ _ _ _ => trivial, step, hd⟩
theorem rng_ints (k : Int) : ∃ zs : List Int, rngD 0 k.toNat = zs.map D.int ∧ zs.length = k.toNat ∧ ∀ z ∈ zs, 0 ≤ z ∧ z < k := by
  refine ⟨(List.range k.toNat).map fun q : Nat => (q : Int), ?_, by simp, ?_⟩
  · unfold rngD
    simp
  · intro x hx
    simp at hx
    omega
theorem vlc_rng2 {va : DA} {g : DG} {t : DT} {e : DE} {vs : List Nat} {γ : Gm} {M : Mem} {a : Addr} {m : MO} {R : DR} (lo hi : Int) (hva : ∀ F : List D → Mem → Prop, F [.int lo, .int hi] (mset M a m) → va γ (mset M a m) F)
    (Pm : Nat → MO → Prop) (Pa : Nat → List D → Prop) (h0 : Pm 0 m) (a0 : Pa 0 []) (hl : ∀ i acc, Pa i acc → acc.length < sizeLine)
    (step : ∀ i acc m' p, p ≠ a → Pm i m' → Pa i acc → i < (hi - lo).toNat → g (.int (lo + (i : Int))) (gwipe γ vs) (mset (mset M p (.lst acc)) a m') fun γ2 M2 => t γ2 M2 fun b M3 =>
      (b = true → e γ2 M3 fun y M4 => pureD y = true ∧ ∃ M5, M4 = mset M5 p (.lst acc) ∧ ∃ m2, M5 = mset M a m2 ∧ Pm (i + 1) m2 ∧ Pa (i + 1) (acc ++ [y])) ∧ (b = false → ∃ M5, M3 = mset M5 p (.lst acc) ∧ ∃ m2, M5 = mset M a m2 ∧ Pm (i + 1) m2 ∧ Pa (i + 1) acc))
    (hR : ∀ acc m', Pm (hi - lo).toNat m' → Pa (hi - lo).toNat acc → R (.lst acc) (mset M a m')) : vLc (wRng2 va) g t e vs γ (mset M a m) R :=
  hva _ (lc_rng Pm Pa h0 a0 hl (fun i acc m' p hne hm ha hi => step i acc m' p hne hm ha hi) hR)
theorem two_sorted {x y : Int} {ns : List Int} (h : ns.Perm [x, y]) (hs : ns.Pairwise (· ≤ ·)) : ∃ u v, ns = [u, v] ∧ u ≤ v ∧ (u = x ∨ u = y) ∧ (v = x ∨ v = y) := by
  have hl := h.length_eq
  match ns, hl with
  | [u, v], _ =>
    have hu : u ∈ [x, y] := h.subset (by simp)
    have hv : v ∈ [x, y] := h.subset (by simp)
    simp at hu hv hs
    exact ⟨u, v, rfl, hs, hu, hv⟩
end Dl
namespace Dl
open PySem L2
/-! ### three names at once, sorted, pop -/
theorem isL3 {G : Gx} {M : Mem} {H : Hp} {d f g : D} {xs : List V} (h : IsL G M H [d, f, g] xs) : ∃ v u w, xs = [v, u, w] ∧ Is G M H d v ∧ Is G M H f u ∧ Is G M H g w := by
  match xs, h with
  | v :: r, h =>
    unfold IsL at h
    obtain ⟨u, w, e, i, j⟩ := isL2 h.2
    exact ⟨v, u, w, by rw [e], h.1, i, j⟩
section
variable {X : Cx} {C : Addr} {o e : Expr} {vo ve : DE} {pos apos : Pos}
def vPar3 (i j l : Nat) (a : DA) : DS := fun Ed γ M => a γ M fun ds M1 => match ds with
  | [x, y, z] => Ed.nx (gset (gset (gset γ i (some x)) j (some y)) l (some z)) M1
  | _ => False
theorem e_vPar3 (i j l : Nat) (a : DA) (Ed : DEnds) (γ : Gm) (M : Mem) : vPar3 i j l a Ed γ M = (a γ M fun ds M1 => match ds with
  | [x, y, z] => Ed.nx (gset (gset (gset γ i (some x)) j (some y)) l (some z)) M1
  | _ => False) := propext Iff.rfl
theorem qs_par3 {i j l : Nat} {x y z : Str} {a b c : Expr} {va : DA} {px py pz pt : Pos} {kt k2 pt2} (hN : X.N.Nodup) (ha : QA X C [a, b, c] va) (hi : X.N[i]? = some x := by rfl) (hj : X.N[j]? = some y := by rfl) (hl : X.N[l]? = some z := by rfl) (hij : i ≠ j := by decide) (hil : i ≠ l := by decide) (hjl : j ≠ l := by decide)
    (hx : X.env.scope.names.lookup x = some .local := by rfl) (hy : X.env.scope.names.lookup y = some .local := by rfl) (hz : X.env.scope.names.lookup z = some .local := by rfl) (hc : X.calm = true := by rfl)
    (hw : swappedStores [.Tuple [.Name x px, .Name y py, .Name z pz] kt pt] (.Tuple [a, b, c] k2 pt2) X.env = pure (some [x, y, z]) := by rfl)
    (hs : swapsWithSole [.Tuple [.Name x px, .Name y py, .Name z pz] kt pt] (.Tuple [a, b, c] k2 pt2) pos.line X.env = pure false := by rfl) :
    QS X C (.Assign [.Tuple [.Name x px, .Name y py, .Name z pz] kt pt] (.Tuple [a, b, c] k2 pt2) pos) (vPar3 i j l va) := by
  obtain ⟨ta, pa, sa⟩ := ha.ex
  refine ⟨_, ps_par3 hc hN hi hj hl hij hil hjl hx hy hz pa hw hs, fun Ed γ M σ H E r l h => sa γ M _ σ H _ r h fun ds M1 xs H1 o1 i1 e1 h1 => ?_⟩
  match ds, h1 with
  | [d, f, g], h1 =>
    obtain ⟨v, w, u, e2, q1, q2, q3⟩ := isL3 i1
    exact ⟨v, w, u, e2, l.nx _ M1 _ H1 ⟨(((r.sl.ext e1).set q1).set q2).set q3, o1⟩ e1 h1⟩
def oSorted : DC := fun ds M R => match ds with
  | [d] => (match intsOf M d with
    | some ns => ns.length < 64 ∧ ∀ ns' : List Int, ns'.Perm ns → ns'.Pairwise (· ≤ ·) → R (.lst (ns'.map .int)) M
    | none => False)
  | _ => False
theorem e_oSorted (ds : List D) (M : Mem) (R : DR) : oSorted ds M R = (match ds with
  | [d] => (match intsOf M d with
    | some ns => ns.length < 64 ∧ ∀ ns' : List Int, ns'.Perm ns → ns'.Pairwise (· ≤ ·) → R (.lst (ns'.map .int)) M
    | none => False)
  | _ => False) := propext Iff.rfl
theorem b_sorted : BQ X C (.builtin "sorted") oSorted := ⟨_, cr_sorted, fun ds M R H xs Q o i1 h k => by
  match ds, h with
  | [d], h =>
    obtain ⟨v, e, q⟩ := isL1 i1
    unfold oSorted at h
    simp only at h
    split at h
    · rename_i ns e2
      obtain ⟨a, e3, s⟩ := ints_at o q e2
      exact ⟨a, ns, by rw [e, e3], s, h.1, fun ns' p h1 h2 hp => k _ M _ _ (o.new hp) (new_lst o hp (isL_ints ns')) (Ext.new hp) (h.2 ns' h1 h2)⟩
    · exact h.elim⟩
theorem bb_sorted : bootBuiltins "sorted" = some (.builtin "sorted") := by decide +kernel
def vPop (o : DE) : DE := fun γ M R => o γ M fun od M1 => match od with
  | .own a => (match M1 a with
    | some (.lst ds) => (match ds[ds.length - 1]? with
      | some d => R d (mset M1 a (.lst ds.dropLast))
      | none => False)
    | _ => False)
  | _ => False
theorem e_vPop (o : DE) (γ : Gm) (M : Mem) (R : DR) : vPop o γ M R = (o γ M fun od M1 => match od with
  | .own a => (match M1 a with
    | some (.lst ds) => (match ds[ds.length - 1]? with
      | some d => R d (mset M1 a (.lst ds.dropLast))
      | none => False)
    | _ => False)
  | _ => False) := propext Iff.rfl
theorem pureL_dropLast : ∀ {ds : List D}, pureL ds = true → pureL ds.dropLast = true
  | [], _ => rfl
  | [_], _ => rfl
  | d :: f :: r, h => by
    unfold pureL at h ⊢
    rw [Bool.and_eq_true] at h
    show (pureD d && pureL (f :: r).dropLast) = true
    rw [h.1, pureL_dropLast h.2]; rfl
theorem isL_dropLast {G : Gx} {M : Mem} {H : Hp} : ∀ {ds : List D} {xs : List V}, IsL G M H ds xs → IsL G M H ds.dropLast xs.dropLast
  | [], [], _ => IsL.nil
  | [], _ :: _, h => by unfold IsL at h; exact h.elim
  | _ :: _, [], h => by unfold IsL at h; exact h.elim
  | [_], [_], _ => IsL.nil
  | [_], _ :: _ :: _, h => by unfold IsL at h; have h2 := h.2; unfold IsL at h2; exact h2.elim
  | _ :: _ :: _, [_], h => by unfold IsL at h; have h2 := h.2; unfold IsL at h2; exact h2.elim
  | d :: f :: r, x :: y :: s, h => by
    unfold IsL at h
    exact IsL.cons h.1 (isL_dropLast h.2)
theorem q_pop (ho : QE X C o vo) (hpe : ∀ {to : TE}, PE X o to → PE X (.Call (.Attribute o "pop" apos) [] [] pos) (tBM X.K "list" rPop to tNil) := by exact fun h1 => pe_bm0 PySem.F.plainAttrs_list PySem.F.slot_list_pop PySem.F.type_list_pop mt_pop h1) : QE X C (.Call (.Attribute o "pop" apos) [] [] pos) (vPop vo) := by
  obtain ⟨to, po, so⟩ := ho.ex
  refine ⟨_, hpe po, fun γ M R σ H Q r h k => so γ M _ σ H _ r h fun od M1 x H1 o1 i1 e1 h1 => ?_⟩
  cases od with
  | own a =>
    have j1 := i1
    unfold Is at j1
    have hq : lstAt M1 a = true := by
      simp only at h1
      split at h1
      · rename_i q; exact lstAt_of q
      · exact h1.elim
    obtain ⟨ds, xs, q, pu, ha, hl⟩ := own_list o1 hq
    rw [j1.1]
    simp only [q] at h1
    split at h1
    · rename_i d hd
      obtain ⟨v, hv, iv⟩ := hl.get hd
      refine ⟨.inl ⟨rfl, xs, SqL.of ha⟩, a, xs, v, rfl, rfl, ha, by rw [← hl.len]; exact hv, ?_⟩
      exact k d (mset M1 a (.lst ds.dropLast)) v _ (o1.put j1.2 (pureL_dropLast pu) (isL_dropLast hl)) (Is.ext (Ext.put j1.2) _ _ iv) (e1.trans (Ext.put j1.2)) h1
    · exact h1.elim
  | _ => exact False.elim h1
end
end Dl
namespace Dl
open PySem L2
/-! ### enumerate, in, comparing data with itself -/
section
variable {X : Cx} {C : Addr} {e : Expr} {pos : Pos}
def enumF : Nat → List D → List D
  | _, [] => []
  | i, d :: r => .tup [.int (i : Int), d] :: enumF (i + 1) r
theorem enumF_len : ∀ (i : Nat) (ds : List D), (enumF i ds).length = ds.length
  | _, [] => rfl
  | i, d :: r => by show (enumF (i + 1) r).length + 1 = r.length + 1; rw [enumF_len (i + 1) r]
theorem enumF_get : ∀ (i j : Nat) (ds : List D) (d : D), (enumF i ds)[j]? = some d → ∃ x, ds[j]? = some x ∧ d = .tup [.int ((i + j : Nat) : Int), x]
  | _, _, [], _, h => by simp [enumF] at h
  | i, 0, x :: r, d, h => by
    refine ⟨x, rfl, ?_⟩
    have : some (D.tup [.int (i : Int), x]) = some d := h
    cases this
    rfl
  | i, j + 1, x :: r, d, h => by
    obtain ⟨y, h1, h2⟩ := enumF_get (i + 1) j r d h
    refine ⟨y, h1, ?_⟩
    rw [h2]
    have : i + 1 + j = i + (j + 1) := by omega
    rw [this]
def liE (d : D) (ds : List D) : ItD := ⟨enumF 0 ds, fun M => seqI M d = some ds⟩
def wEnum (a : DA) : DI := fun γ M R => a γ M fun es M1 => match es with
  | [d] => (match isTup d, seqI M1 d with
    | false, some ds => R (liE d ds) M1
    | _, _ => False)
  | _ => False
theorem e_wEnum (a : DA) (γ : Gm) (M : Mem) (R : ItD → Mem → Prop) : wEnum a γ M R = (a γ M fun es M1 => match es with
  | [d] => (match isTup d, seqI M1 d with
    | false, some ds => R (liE d ds) M1
    | _, _ => False)
  | _ => False) := propext Iff.rfl
theorem qi_enum {va : DA} {p tpos : Pos} {elts : List Expr} {kk : Nat} (hm : X.mg "enumerate" = none) (ha : QA X C [e] va) (hg : Gl X "enumerate" := by rfl) (hs : starEach [e] X.env = [(false, eval e X.env)] := by rfl) : QI X C (.Tuple elts kk tpos) (.Call (.Name "enumerate" p) [e] [] pos) (wEnum va) := by
  obtain ⟨t, p, s⟩ := ha.ex
  refine ⟨_, pi_enum hg hm p hs, fun γ M R σ H Q r h k => s γ M _ σ H _ r h fun es M1 zs H1 o1 i1 e1 h1 => ?_⟩
  match es, h1 with
  | [d], h1 =>
    obtain ⟨x, ez, i1⟩ := isL1 i1
    simp only at h1
    cases q : isTup d with
    | true => rw [q] at h1; exact h1.elim
    | false =>
      cases q2 : seqI M1 d with
      | none => rw [q, q2] at h1; exact h1.elim
      | some ds =>
        rw [q, q2] at h1
        obtain ⟨a, xs, ex, l, sq⟩ := seq_at o1 i1 q2
        rcases sq with ⟨_, sq⟩ | ⟨z, _⟩
        · refine ⟨a, xs, by rw [ez, ex], sq, k _ _ M1 H1 o1 e1 ?_ h1⟩
          intro M' H' x' o' st i
          obtain ⟨a', xs', ex', l', sq'⟩ := seq_at o' (Is.ext x' d x i1) st
          have ea : a' = a := by rw [ex] at ex'; cases ex'; rfl
          subst ea
          rcases sq' with ⟨_, sq'⟩ | ⟨z, _⟩
          · refine ⟨fun d' hd => ?_, fun hn => ⟨xs', sq', by rw [← l'.len]; rw [show (liE d ds).its.length = ds.length from enumF_len 0 ds] at hn; exact hn⟩⟩
            obtain ⟨d2, h2, rfl⟩ := enumF_get 0 i ds d' hd
            obtain ⟨v, hv, iv⟩ := l'.get h2
            refine ⟨⟨xs', v, sq', hv⟩, fun y H2 hy => ?_⟩
            obtain ⟨T, u, ey, hT, eH, hu⟩ := hy
            subst eH
            have eu := hu xs' sq'
            rw [hv] at eu
            cases eu
            rw [ey, Nat.zero_add]
            exact ⟨o'.new hT, new_tup o' hT (IsL.cons is_int (IsL.cons iv IsL.nil)), Ext.new hT⟩
          · rw [q] at z; cases z
        · rw [q] at z; cases z
/-! x in (..) of texts -/
def strsD : List D → Option (List Str)
  | [] => some []
  | .str x :: r => (strsD r).map (x :: ·)
  | _ => none
def oInG (f : Bool → Bool) : DO := fun d t M R => match d, t with
  | .str z, .tup ds => (match strsD ds with
    | some ws => (ws.all fun x => PyData.strOk x) = true ∧ PyData.strOk z = true ∧ R (.bl (f (ws.any fun x => x == z))) M
    | none => False)
  | _, _ => False
theorem e_oInG (f : Bool → Bool) (d t : D) (M : Mem) (R : DR) : oInG f d t M R = (match d, t with
  | .str z, .tup ds => (match strsD ds with
    | some ws => (ws.all fun x => PyData.strOk x) = true ∧ PyData.strOk z = true ∧ R (.bl (f (ws.any fun x => x == z))) M
    | none => False)
  | _, _ => False) := propext Iff.rfl
abbrev oIn : DO := oInG id
abbrev oNotIn : DO := oInG Bool.not
theorem strs_toPL : ∀ {ds : List D} {ws : List Str}, strsD ds = some ws → toPL ds = some (ws.map PyData.str)
  | [], ws, h => by unfold strsD at h; cases h; rfl
  | .str x :: r, ws, h => by
    have h' : (strsD r).map (x :: ·) = some ws := h
    cases q : strsD r with
    | none => rw [q] at h'; cases h'
    | some vs =>
      rw [q] at h'
      cases h'
      have := strs_toPL q
      unfold toPL toP
      rw [this]
      rfl
theorem canLay_strs : ∀ {ws : List Str}, (ws.all fun x => PyData.strOk x) = true → PyData.canLayAll0 (ws.map PyData.str) = true
  | [], _ => rfl
  | x :: r, h => by
    rw [List.all_cons, Bool.and_eq_true] at h
    show (PyData.canLay0 (.str x) && PyData.canLayAll0 (r.map PyData.str)) = true
    rw [canLay_strs h.2, Bool.and_true]
    exact h.1
theorem any_strs (z : Str) : ∀ ws : List Str, ((ws.map PyData.str).any fun y => PyData.eqv y (.str z)) = ws.any fun x => x == z
  | [] => rfl
  | x :: r => by
    rw [List.map_cons, List.any_cons, List.any_cons, any_strs z r]
    rfl
def rInW (f : Bool → Bool) (K : PySem.W.Frag) : R2 := fun x y H Q => ∃ (z : Str) (ws : List Str), Dp K H x (.str z) ∧ Dp K H y (.tuple (ws.map .str)) ∧ (ws.all fun x => PyData.strOk x) = true ∧ PyData.strOk z = true ∧ Q (.bl (f (ws.any fun x => x == z))) H
theorem op_inW {k : Nat} (hr : Room k X.A) : OpR X (compareOp .In) (rInW id X.K) := by
  intro pins s σ H x y v u Q I rx ry h
  obtain ⟨z, ws, hd, he, sw, sz, q⟩ := h
  obtain ⟨as, r1⟩ := Dp.reads I _ x v hd rx
  obtain ⟨bs, r2⟩ := Dp.reads I _ y u he ry
  have hu := hr.units
  exact SeqAt.in_tuple_reads r2 r1 (canLay_strs sw) sz (by show _ + 1 + min _ 0 < _; omega) ⟨.bl _, H, I, rfl, by rw [any_strs]; exact q⟩
theorem op_notInW {k : Nat} (hr : Room k X.A) : OpR X (compareOp .NotIn) (rInW Bool.not X.K) := by
  intro pins s σ H x y v u Q I rx ry h
  obtain ⟨z, ws, hd, he, sw, sz, q⟩ := h
  obtain ⟨as, r1⟩ := Dp.reads I _ x v hd rx
  obtain ⟨bs, r2⟩ := Dp.reads I _ y u he ry
  have hu := hr.units
  exact SeqAt.notIn_tuple_reads r2 r1 (canLay_strs sw) sz (by show _ + 1 + min _ 0 < _; omega) ⟨.bl _, H, I, rfl, by rw [any_strs]; exact q⟩
theorem sndO_in {G : Gx} {f : Bool → Bool} : SndO G (rInW f G.K) (oInG f) := fun d e M R H x y Q o i1 i2 h k => by
  unfold oInG at h
  split at h
  · rename_i z ds
    split at h
    · rename_i ws q
      have p : toP (.tup ds) = some (.tuple (ws.map .str)) := by unfold toP; rw [strs_toPL q]; rfl
      exact ⟨z, ws, toP_ok _ _ _ i1 (by unfold toP; rfl), toP_ok _ _ _ i2 p, h.1, h.2.1, k _ M _ H o is_bl Ext.refl h.2.2⟩
    · exact h.elim
  · exact h.elim
theorem c_in {k : Nat} (hr : Room k X.A) : CmpQ X C .In oIn := ⟨_, op_inW hr, sndO_in⟩
theorem c_notIn {k : Nat} (hr : Room k X.A) : CmpQ X C .NotIn oNotIn := ⟨_, op_notInW hr, sndO_in⟩
end
/-! ### data that can be compared -/
mutual
def cmpD : Nat → D → Bool
  | _, .non => true
  | _, .bl _ => true
  | _, .int _ => true
  | _, .str x => PyData.strOk x
  | n + 1, .tup ds => cmpL n ds
  | n + 1, .lst ds => cmpL n ds
  | _, _ => false
def cmpL : Nat → List D → Bool
  | _, [] => true
  | n, d :: ds => cmpD n d && cmpL n ds
end
mutual
theorem cmpD_ok : ∀ (n : Nat) (d : D), cmpD n d = true → ∃ p, toP d = some p ∧ p.canLay0 = true ∧ p.depth ≤ n
  | _, .non, _ => ⟨_, rfl, rfl, Nat.zero_le _⟩
  | _, .bl _, _ => ⟨_, rfl, rfl, Nat.zero_le _⟩
  | _, .int _, _ => ⟨_, rfl, rfl, Nat.zero_le _⟩
  | _, .str x, h => ⟨.str x, rfl, by unfold cmpD at h; exact h, Nat.zero_le _⟩
  | n + 1, .tup ds, h => by
    unfold cmpD at h
    obtain ⟨ps, e, c, dp⟩ := cmpL_ok n ds h
    exact ⟨.tuple ps, by unfold toP; rw [e]; rfl, c, by unfold PyData.depth; omega⟩
  | n + 1, .lst ds, h => by
    unfold cmpD at h
    obtain ⟨ps, e, c, dp⟩ := cmpL_ok n ds h
    exact ⟨.list ps, by unfold toP; rw [e]; rfl, c, by unfold PyData.depth; omega⟩
  | 0, .tup _, h => by unfold cmpD at h; cases h
  | 0, .lst _, h => by unfold cmpD at h; cases h
  | _, .scr _, h => by unfold cmpD at h; cases h
  | _, .ln _ _ _, h => by unfold cmpD at h; cases h
  | _, .own _, h => by unfold cmpD at h; cases h
theorem cmpL_ok : ∀ (n : Nat) (ds : List D), cmpL n ds = true → ∃ ps, toPL ds = some ps ∧ PyData.canLayAll0 ps = true ∧ PyData.depthAll ps ≤ n
  | _, [], _ => ⟨[], rfl, rfl, Nat.zero_le _⟩
  | n, d :: ds, h => by
    unfold cmpL at h
    rw [Bool.and_eq_true] at h
    obtain ⟨p, e, c, dp⟩ := cmpD_ok n d h.1
    obtain ⟨ps, e2, c2, dp2⟩ := cmpL_ok n ds h.2
    refine ⟨p :: ps, by unfold toPL; rw [e, e2], ?_, ?_⟩
    · unfold PyData.canLayAll0; rw [c, c2]; rfl
    · unfold PyData.depthAll; omega
end
theorem shaped_of {d : D} (h : cmpD 64 d = true) : ∃ p, toP d = some p ∧ SeqAt.shaped p = true ∧ PyData.eqv p p = true := by
  obtain ⟨p, e, c, dp⟩ := cmpD_ok 64 d h
  exact ⟨p, e, by unfold SeqAt.shaped; rw [c, decide_eq_true dp]; rfl, SeqAt.eqv_refl p c⟩
theorem toPt_pure {M : Mem} {d : D} {p : PyData} (h : toP d = some p) : toPt M d = some p := by
  cases d with
  | own a => unfold toP at h; cases h
  | _ => exact h
/-- anything against anything, where both can be compared -/
theorem eqG_of {f : Bool → Bool} {M : Mem} {R : DR} {d e : D} {p q : PyData} (h1 : toPt M d = some p) (h2 : toPt M e = some q) (s1 : SeqAt.shaped p = true) (s2 : SeqAt.shaped q = true) (hR : R (.bl (f (PyData.eqv p q))) M) : oEqG f d e M R := by
  unfold oEqG
  split
  · rename_i i j
    have a1 : some (PyData.int i) = some p := h1
    have a2 : some (PyData.int j) = some q := h2
    cases a1
    cases a2
    rw [← beq_dec]
    exact hR
  · rw [h1, h2]
    exact ⟨s1, s2, hR⟩
theorem eqG_self {f : Bool → Bool} {M : Mem} {R : DR} {d : D} (h : cmpD 64 d = true) (hR : R (.bl (f true)) M) : oEqG f d d M R := by
  obtain ⟨p, e, s, r⟩ := shaped_of h
  exact eqG_of (toPt_pure e) (toPt_pure e) s s (by rw [r]; exact hR)
theorem eqG_own {f : Bool → Bool} {M : Mem} {R : DR} {a : Addr} {ds : List D} (ha : M a = some (.lst ds)) (h : cmpD 64 (.lst ds) = true) (hR : R (.bl (f true)) M) : oEqG f (.own a) (.lst ds) M R := by
  obtain ⟨p, e, s, r⟩ := shaped_of h
  refine eqG_of (p := p) (q := p) ?_ (toPt_pure e) s s (by rw [r]; exact hR)
  unfold toPt
  simp only [ha]
  exact e
theorem cmp_ints (n : Nat) : ∀ xs : List Int, cmpL n (xs.map D.int) = true
  | [] => by unfold cmpL; rfl
  | x :: r => by
    show cmpL n (D.int x :: r.map D.int) = true
    unfold cmpL
    rw [cmp_ints n r]
    cases n <;> rfl
/-! ### words -/
theorem word_ok (s : String) : PyData.strOk (Str.ofString s) = true := by
  rw [Str.ofString_eq_toList]
  unfold PyData.strOk
  rw [Array.all_eq_true']
  intro n hn
  simp only [List.mem_toArray, List.mem_map] at hn
  obtain ⟨c, _, rfl⟩ := hn
  refine decide_eq_true ?_
  have h := c.valid
  have e : c.toNat = c.val.toNat := rfl
  unfold UInt32.isValidChar Nat.isValidChar at h
  omega
theorem toNat_inj {a b : Char} (h : a.toNat = b.toNat) : a = b := by
  have e : a.val.toNat = b.val.toNat := h
  exact Char.ext (UInt32.toNat_inj.mp e)
theorem map_toNat_inj : ∀ {as bs : List Char}, as.map Char.toNat = bs.map Char.toNat → as = bs
  | [], [], _ => rfl
  | [], _ :: _, h => by simp at h
  | _ :: _, [], h => by simp at h
  | a :: as, b :: bs, h => by
    simp only [List.map_cons, List.cons.injEq] at h
    rw [toNat_inj h.1, map_toNat_inj h.2]
theorem word_inj {a b : String} (h : Str.ofString a = Str.ofString b) : a = b := by
  rw [Str.ofString_eq_toList, Str.ofString_eq_toList] at h
  have h1 : (a.toList.map Char.toNat).toArray = (b.toList.map Char.toNat).toArray := Str.mk.inj h
  have h2 : a.toList.map Char.toNat = b.toList.map Char.toNat := by
    have := congrArg Array.toList h1
    exact this
  exact String.toList_inj.mp (map_toNat_inj h2)
theorem word_beq (a b : String) : (Str.ofString a == Str.ofString b) = decide (a = b) := by
  by_cases h : a = b
  · subst h; simp
  · rw [decide_eq_false h]
    exact beq_eq_false_iff_ne.mpr fun z => h (word_inj z)
theorem shaped_str {x : Str} (h : PyData.strOk x = true) : SeqAt.shaped (.str x) = true := by
  unfold SeqAt.shaped
  rw [Bool.and_eq_true]
  exact ⟨h, decide_eq_true (Nat.zero_le _)⟩
theorem f_eqW (f : Bool → Bool) (a b : String) (M : Mem) (R : DR) : oEqG f (.str (Str.ofString a)) (.str (Str.ofString b)) M R = R (.bl (f (decide (a = b)))) M := by
  refine propext ⟨fun h => ?_, fun h => ?_⟩
  · have h' : SeqAt.shaped (.str (Str.ofString a)) = true ∧ SeqAt.shaped (.str (Str.ofString b)) = true ∧ R (.bl (f (Str.ofString a == Str.ofString b))) M := h
    rw [← word_beq]
    exact h'.2.2
  · refine eqG_of (p := .str (Str.ofString a)) (q := .str (Str.ofString b)) rfl rfl (shaped_str (word_ok a)) (shaped_str (word_ok b)) ?_
    show R (.bl (f (Str.ofString a == Str.ofString b))) M
    rw [word_beq]
    exact h
theorem f_in2 (f : Bool → Bool) (z a b : String) (M : Mem) (R : DR) : oInG f (.str (Str.ofString z)) (.tup [.str (Str.ofString a), .str (Str.ofString b)]) M R = R (.bl (f (decide (a = z) || decide (b = z)))) M := by
  have e : oInG f (.str (Str.ofString z)) (.tup [.str (Str.ofString a), .str (Str.ofString b)]) M R = (([Str.ofString a, Str.ofString b].all fun x => PyData.strOk x) = true ∧ PyData.strOk (Str.ofString z) = true ∧ R (.bl (f ([Str.ofString a, Str.ofString b].any fun x => x == Str.ofString z))) M) := propext Iff.rfl
  rw [e]
  simp [word_ok, word_beq]
theorem f_in4 (f : Bool → Bool) (z a b c d : String) (M : Mem) (R : DR) : oInG f (.str (Str.ofString z)) (.tup [.str (Str.ofString a), .str (Str.ofString b), .str (Str.ofString c), .str (Str.ofString d)]) M R = R (.bl (f (decide (a = z) || (decide (b = z) || (decide (c = z) || decide (d = z)))))) M := by
  have e : oInG f (.str (Str.ofString z)) (.tup [.str (Str.ofString a), .str (Str.ofString b), .str (Str.ofString c), .str (Str.ofString d)]) M R = (([Str.ofString a, Str.ofString b, Str.ofString c, Str.ofString d].all fun x => PyData.strOk x) = true ∧ PyData.strOk (Str.ofString z) = true ∧ R (.bl (f ([Str.ofString a, Str.ofString b, Str.ofString c, Str.ofString d].any fun x => x == Str.ofString z))) M) := propext Iff.rfl
  rw [e]
  simp [word_ok, word_beq]
theorem eqG_nil {f : Bool → Bool} {M : Mem} {R : DR} {d : D} {ds : List D} (h : cmpD 64 (.tup (d :: ds)) = true) (hR : R (.bl (f false)) M) : oEqG f (.tup (d :: ds)) (.tup []) M R := by
  obtain ⟨p, e, s, r⟩ := shaped_of h
  refine eqG_of (p := p) (q := .tuple []) (toPt_pure e) rfl s (by decide) ?_
  unfold toP at e
  cases q : toPL (d :: ds) with
  | none => rw [q] at e; cases e
  | some ps =>
    rw [q] at e
    cases e
    unfold toPL at q
    split at q
    · cases q; exact hR
    · cases q
theorem vfor_enum {va : DA} {g : DG} {b : DS} {Ed : DEnds} {γ : Gm} {M M1 : Mem} (ds : List D) (hva : ∀ F : List D → Mem → Prop, F [.lst ds] M1 → va γ M F) (W : Nat → Gm → Mem → Prop) (h0 : W 0 γ M1)
    (step : ∀ i x γ' M', W i γ' M' → ds[i]? = some x → g (.tup [.int (i : Int), x]) γ' M' fun γ2 M2 => b { Ed with nx := W (i + 1), ct := W (i + 1), bk := Ed.nx } γ2 M2) (hd : ∀ γ' M', W ds.length γ' M' → Ed.nx γ' M') : vFor (wEnum va) g b Ed γ M :=
  hva _ ⟨W, h0, fun _ _ _ _ => rfl, fun i d γ' M' w h => by
    obtain ⟨x, h1, rfl⟩ := enumF_get 0 i ds d h
    rw [Nat.zero_add]
    exact step i x γ' M' w h1, fun γ' M' w => hd γ' M' (by rw [← enumF_len 0 ds]; exact w)⟩
theorem at_nat {ds : List D} {i : Nat} {d : D} (h : ds[i]? = some d) : atI ds (i : Int) = some d := by
  have hi : i < ds.length := (List.getElem?_eq_some_iff.mp h).1
  have e : ixN ds.length (i : Int) = some i := by
    unfold ixN
    rw [if_pos (by omega), if_pos (by omega), Int.toNat_natCast]
  unfold atI
  rw [e]
  exact h
theorem at_int {vs : List Int} {i : Nat} {v : Int} (h : vs[i]? = some v) : atI (vs.map D.int) (i : Int) = some (.int v) := at_nat (by rw [List.getElem?_map, h]; rfl)
theorem fin_frzP {M : Mem} {R : DR} {a q : Addr} {m m' : MO} {ds : List D} (hq : M q = none) (hne : q ≠ a) (h : R (.lst ds) (mset M a m')) : fin (mset M a m) R (.own q) (mset (mset M q (.lst ds)) a m') := by
  rw [← mset_comm (M := M) (Ne.symm hne)]
  have hq2 : mset M a m' q = none := by rw [mset_ne hne]; exact hq
  exact ⟨.lst ds, mset M a m', Sub.set hq2, dom_sw, .inr (.inl ⟨q, ds, rfl, mset_same, hq2, rfl⟩), h⟩
end Dl
namespace Dl
open PySem L2
/-! ### zip, max and min of a list -/
section
variable {X : Cx} {C : Addr} {e e2 : Expr} {pos : Pos}
def zipF (ds es : List D) : List D := List.zipWith (fun a b => D.tup [a, b]) ds es
theorem zipF_get {ds es : List D} {i : Nat} {d : D} (h : (zipF ds es)[i]? = some d) : ∃ x y, ds[i]? = some x ∧ es[i]? = some y ∧ d = .tup [x, y] := by
  unfold zipF at h
  rw [List.getElem?_zipWith] at h
  cases h1 : ds[i]? with
  | none => rw [h1] at h; cases h
  | some x =>
    cases h2 : es[i]? with
    | none => rw [h1, h2] at h; cases h
    | some y => rw [h1, h2] at h; cases h; exact ⟨x, y, rfl, rfl, rfl⟩
theorem zipF_len (ds es : List D) : (zipF ds es).length = min ds.length es.length := by simp [zipF]
def liZ (d f : D) (ds es : List D) : ItD := ⟨zipF ds es, fun M => seqI M d = some ds ∧ seqI M f = some es⟩
def wZip (a : DA) : DI := fun γ M R => a γ M fun es M1 => match es with
  | [d, f] => (match isTup d, isTup f, seqI M1 d, seqI M1 f with
    | false, false, some ds, some es => R (liZ d f ds es) M1
    | _, _, _, _ => False)
  | _ => False
theorem e_wZip (a : DA) (γ : Gm) (M : Mem) (R : ItD → Mem → Prop) : wZip a γ M R = (a γ M fun es M1 => match es with
  | [d, f] => (match isTup d, isTup f, seqI M1 d, seqI M1 f with
    | false, false, some ds, some es => R (liZ d f ds es) M1
    | _, _, _, _ => False)
  | _ => False) := propext Iff.rfl
theorem qi_zip {va : DA} {p tpos : Pos} {elts : List Expr} {kk : Nat} (hm : X.mg "zip" = none) (ha : QA X C [e, e2] va) (hg : Gl X "zip" := by rfl) (hs : starEach [e, e2] X.env = (false, eval e X.env) :: starEach [e2] X.env := by rfl) (hpl : (backTo pos (starEach [e2] X.env)).any (·.1) = false := by rfl) :
    QI X C (.Tuple elts kk tpos) (.Call (.Name "zip" p) [e, e2] [] pos) (wZip va) := by
  obtain ⟨t, p, s⟩ := ha.ex
  refine ⟨_, pi_zip hg hm p hs hpl, fun γ M R σ H Q r h k => s γ M _ σ H _ r h fun es M1 zs H1 o1 i1 e1 h1 => ?_⟩
  match es, h1 with
  | [d, f], h1 =>
    obtain ⟨x, y, ez, i1, i2⟩ := isL2 i1
    simp only at h1
    cases q : isTup d with
    | true => rw [q] at h1; exact h1.elim
    | false =>
      cases qf : isTup f with
      | true => rw [q, qf] at h1; exact h1.elim
      | false =>
        cases q2 : seqI M1 d with
        | none => rw [q, qf, q2] at h1; exact h1.elim
        | some ds =>
          cases q3 : seqI M1 f with
          | none => rw [q, qf, q2, q3] at h1; exact h1.elim
          | some es =>
            rw [q, qf, q2, q3] at h1
            obtain ⟨a, xs, ex, l, sq⟩ := seq_at o1 i1 q2
            obtain ⟨b, ys, ey, l2, sq2⟩ := seq_at o1 i2 q3
            have sq : SqL X.K H1 a xs := by rcases sq with ⟨_, sq⟩ | ⟨z, _⟩; exact sq; rw [q] at z; cases z
            have sq2 : SqL X.K H1 b ys := by rcases sq2 with ⟨_, sq⟩ | ⟨z, _⟩; exact sq; rw [qf] at z; cases z
            refine ⟨a, b, xs, ys, by rw [ez, ex, ey], sq, sq2, k _ _ M1 H1 o1 e1 ?_ h1⟩
            intro M' H' x' o' st i
            obtain ⟨st1, st2⟩ := st
            obtain ⟨a', xs', ex', l', sq'⟩ := seq_at o' (Is.ext x' d x i1) st1
            obtain ⟨b', ys', ey', l2', sq2'⟩ := seq_at o' (Is.ext x' f y i2) st2
            have ea : a' = a := by rw [ex] at ex'; cases ex'; rfl
            have eb : b' = b := by rw [ey] at ey'; cases ey'; rfl
            subst ea
            subst eb
            have sq' : SqL X.K H' a' xs' := by rcases sq' with ⟨_, sq⟩ | ⟨z, _⟩; exact sq; rw [q] at z; cases z
            have sq2' : SqL X.K H' b' ys' := by rcases sq2' with ⟨_, sq⟩ | ⟨z, _⟩; exact sq; rw [qf] at z; cases z
            refine ⟨fun d' hd => ?_, fun hn => ⟨xs', ys', sq', sq2', ?_⟩⟩
            · obtain ⟨u, v, hu, hv, rfl⟩ := zipF_get hd
              obtain ⟨u', hu', iu⟩ := l'.get hu
              obtain ⟨v', hv', iv⟩ := l2'.get hv
              refine ⟨⟨xs', ys', u', v', sq', sq2', hu', hv'⟩, fun z H2 hy => ?_⟩
              obtain ⟨T, x3, y3, ez3, hT, eH, hx3, hy3⟩ := hy
              subst eH
              have e3 := hx3 xs' sq'
              have e4 := hy3 ys' sq2'
              rw [hu'] at e3
              rw [hv'] at e4
              cases e3
              cases e4
              rw [ez3]
              exact ⟨o'.new hT, new_tup o' hT (IsL.cons iu (IsL.cons iv IsL.nil)), Ext.new hT⟩
            · rw [show (liZ d f ds es).its.length = _ from zipF_len ds es] at hn
              rw [← l'.len, ← l2'.len]
              omega
theorem vfor_zip {va : DA} {g : DG} {b : DS} {Ed : DEnds} {γ : Gm} {M M1 : Mem} (ds es : List D) (hva : ∀ F : List D → Mem → Prop, F [.lst ds, .lst es] M1 → va γ M F) (W : Nat → Gm → Mem → Prop) (h0 : W 0 γ M1)
    (step : ∀ i x y γ' M', W i γ' M' → ds[i]? = some x → es[i]? = some y → g (.tup [x, y]) γ' M' fun γ2 M2 => b { Ed with nx := W (i + 1), ct := W (i + 1), bk := Ed.nx } γ2 M2) (hd : ∀ γ' M', W (min ds.length es.length) γ' M' → Ed.nx γ' M') : vFor (wZip va) g b Ed γ M :=
  hva _ ⟨W, h0, fun _ _ _ _ => ⟨rfl, rfl⟩, fun i d γ' M' w h => by
    obtain ⟨x, y, h1, h2, rfl⟩ := zipF_get h
    exact step i x y γ' M' w h1 h2, fun γ' M' w => hd γ' M' (by rw [← zipF_len ds es]; exact w)⟩
def oMax1 : DC := fun ds M R => match ds with
  | [d] => (match intsOf M d with
    | some ns => 0 < ns.length ∧ ∀ m, m ∈ ns → (∀ y ∈ ns, y ≤ m) → R (.int m) M
    | none => False)
  | _ => False
def oMin1 : DC := fun ds M R => match ds with
  | [d] => (match intsOf M d with
    | some ns => 0 < ns.length ∧ ∀ m, m ∈ ns → (∀ y ∈ ns, m ≤ y) → R (.int m) M
    | none => False)
  | _ => False
theorem e_oMax1 (ds : List D) (M : Mem) (R : DR) : oMax1 ds M R = (match ds with
  | [d] => (match intsOf M d with
    | some ns => 0 < ns.length ∧ ∀ m, m ∈ ns → (∀ y ∈ ns, y ≤ m) → R (.int m) M
    | none => False)
  | _ => False) := propext Iff.rfl
theorem e_oMin1 (ds : List D) (M : Mem) (R : DR) : oMin1 ds M R = (match ds with
  | [d] => (match intsOf M d with
    | some ns => 0 < ns.length ∧ ∀ m, m ∈ ns → (∀ y ∈ ns, m ≤ y) → R (.int m) M
    | none => False)
  | _ => False) := propext Iff.rfl
theorem b_max1 (hc : X.calm = true := by rfl) : BQ X C (.builtin "max") oMax1 := ⟨_, cr_max hc, fun ds M R H xs Q o i1 h k => by
  match ds, h with
  | [d], h =>
    obtain ⟨v, e, q⟩ := isL1 i1
    unfold oMax1 at h
    simp only at h
    split at h
    · rename_i ns e2
      obtain ⟨a, e3, s⟩ := ints_at o q e2
      exact ⟨a, ns, by rw [e, e3], s, h.1, fun m h1 h2 => k _ M _ H o is_int Ext.refl (h.2 m h1 h2)⟩
    · exact h.elim⟩
theorem b_min1 (hc : X.calm = true := by rfl) : BQ X C (.builtin "min") oMin1 := ⟨_, cr_min hc, fun ds M R H xs Q o i1 h k => by
  match ds, h with
  | [d], h =>
    obtain ⟨v, e, q⟩ := isL1 i1
    unfold oMin1 at h
    simp only at h
    split at h
    · rename_i ns e2
      obtain ⟨a, e3, s⟩ := ints_at o q e2
      exact ⟨a, ns, by rw [e, e3], s, h.1, fun m h1 h2 => k _ M _ H o is_int Ext.refl (h.2 m h1 h2)⟩
    · exact h.elim⟩
theorem f_intsL {M : Mem} {xs : List D} : intsOf M (.lst xs) = intsD xs := id rfl
end
/-! ### comprehensions that leave the memory as it is -/
theorem lc_still {j : ItD} {g : DG} {t : DT} {e : DE} {vs : List Nat} {γ : Gm} {M : Mem} {R : DR} (Pa : Nat → List D → Prop) (a0 : Pa 0 []) (hl : ∀ i acc, Pa i acc → acc.length < sizeLine) (hst : ∀ p acc, M p = none → j.st (mset M p (.lst acc)))
    (step : ∀ i acc d p, M p = none → Pa i acc → j.its[i]? = some d → g d (gwipe γ vs) (mset M p (.lst acc)) fun γ2 M2 => t γ2 M2 fun b M3 =>
      (b = true → e γ2 M3 fun y M4 => pureD y = true ∧ ∃ M5, M4 = mset M5 p (.lst acc) ∧ M5 = M ∧ Pa (i + 1) (acc ++ [y])) ∧ (b = false → ∃ M5, M3 = mset M5 p (.lst acc) ∧ M5 = M ∧ Pa (i + 1) acc))
    (hR : ∀ acc, Pa j.its.length acc → R (.lst acc) M) :
    ∀ p, M p = none → ∃ W : Nat → List D → Mem → Prop, W 0 [] M ∧
      (∀ i acc M', W i acc M' → M' p = none ∧ acc.length < sizeLine ∧ j.st (mset M' p (.lst acc))) ∧
      (∀ i acc M' d, W i acc M' → j.its[i]? = some d → g d (gwipe γ vs) (mset M' p (.lst acc)) fun γ2 M2 => t γ2 M2 fun b M3 =>
        (b = true → e γ2 M3 fun y M4 => pureD y = true ∧ ∃ M5, M4 = mset M5 p (.lst acc) ∧ W (i + 1) (acc ++ [y]) M5) ∧ (b = false → ∃ M5, M3 = mset M5 p (.lst acc) ∧ W (i + 1) acc M5)) ∧
      (∀ acc M', W j.its.length acc M' → R (.lst acc) M') := by
  intro p hp
  refine ⟨fun i acc M' => M' = M ∧ Pa i acc, ⟨rfl, a0⟩, ?_, ?_, ?_⟩
  · rintro i acc M' ⟨rfl, ha⟩
    exact ⟨hp, hl i acc ha, hst p acc hp⟩
  · rintro i acc M' d ⟨rfl, ha⟩ hd
    exact step i acc d p hp ha hd
  · rintro acc M' ⟨rfl, ha⟩
    exact hR acc ha
theorem vlc_list {ve : DE} {g : DG} {t : DT} {e : DE} {vs : List Nat} {γ : Gm} {M M1 : Mem} {R : DR} (ds : List D) (hve : ∀ F : DR, F (.lst ds) M1 → ve γ M F) (Pa : Nat → List D → Prop) (a0 : Pa 0 []) (hl : ∀ i acc, Pa i acc → acc.length < sizeLine)
    (step : ∀ i acc d p, M1 p = none → Pa i acc → ds[i]? = some d → g d (gwipe γ vs) (mset M1 p (.lst acc)) fun γ2 M2 => t γ2 M2 fun b M3 =>
      (b = true → e γ2 M3 fun y M4 => pureD y = true ∧ ∃ M5, M4 = mset M5 p (.lst acc) ∧ M5 = M1 ∧ Pa (i + 1) (acc ++ [y])) ∧ (b = false → ∃ M5, M3 = mset M5 p (.lst acc) ∧ M5 = M1 ∧ Pa (i + 1) acc))
    (hR : ∀ acc, Pa ds.length acc → R (.lst acc) M1) : vLc (wList ve) g t e vs γ M R :=
  hve _ (lc_still (j := liD (.lst ds) ds) Pa a0 hl (fun _ _ _ => rfl) step hR)
theorem vlc_tup {ve : DE} {g : DG} {t : DT} {e : DE} {vs : List Nat} {γ : Gm} {M M1 : Mem} {R : DR} (ds : List D) (hve : ∀ F : DR, F (.tup ds) M1 → ve γ M F) (Pa : Nat → List D → Prop) (a0 : Pa 0 []) (hl : ∀ i acc, Pa i acc → acc.length < sizeLine)
    (step : ∀ i acc d p, M1 p = none → Pa i acc → ds[i]? = some d → g d (gwipe γ vs) (mset M1 p (.lst acc)) fun γ2 M2 => t γ2 M2 fun b M3 =>
      (b = true → e γ2 M3 fun y M4 => pureD y = true ∧ ∃ M5, M4 = mset M5 p (.lst acc) ∧ M5 = M1 ∧ Pa (i + 1) (acc ++ [y])) ∧ (b = false → ∃ M5, M3 = mset M5 p (.lst acc) ∧ M5 = M1 ∧ Pa (i + 1) acc))
    (hR : ∀ acc, Pa ds.length acc → R (.lst acc) M1) : vLc (wTup ve) g t e vs γ M R :=
  hve _ (lc_still (j := ⟨ds, fun _ => True⟩) Pa a0 hl (fun _ _ _ => trivial) step hR)
theorem vlc_rg2 {va : DA} {g : DG} {t : DT} {e : DE} {vs : List Nat} {γ : Gm} {M : Mem} {R : DR} (lo hi : Int) (hva : ∀ F : List D → Mem → Prop, F [.int lo, .int hi] M → va γ M F) (Pa : Nat → List D → Prop) (a0 : Pa 0 []) (hl : ∀ i acc, Pa i acc → acc.length < sizeLine)
    (step : ∀ i acc p, M p = none → Pa i acc → i < (hi - lo).toNat → g (.int (lo + (i : Int))) (gwipe γ vs) (mset M p (.lst acc)) fun γ2 M2 => t γ2 M2 fun b M3 =>
      (b = true → e γ2 M3 fun y M4 => pureD y = true ∧ ∃ M5, M4 = mset M5 p (.lst acc) ∧ M5 = M ∧ Pa (i + 1) (acc ++ [y])) ∧ (b = false → ∃ M5, M3 = mset M5 p (.lst acc) ∧ M5 = M ∧ Pa (i + 1) acc))
    (hR : ∀ acc, Pa (hi - lo).toNat acc → R (.lst acc) M) : vLc (wRng2 va) g t e vs γ M R :=
  hva _ (lc_still (j := ⟨rngD lo (hi - lo).toNat, fun _ => True⟩) Pa a0 hl (fun _ _ _ => trivial) (fun i acc d p hp ha hd => by
    obtain ⟨h1, rfl⟩ := (rngD_get _ _ _ _).mp hd
    exact step i acc p hp ha h1) (fun acc ha => hR acc (by
    have e : (⟨rngD lo (hi - lo).toNat, fun _ => True⟩ : ItD).its.length = (hi - lo).toNat := rngD_len lo _
    rw [e] at ha; exact ha)))
theorem vlc_rg1 {va : DA} {g : DG} {t : DT} {e : DE} {vs : List Nat} {γ : Gm} {M : Mem} {R : DR} (k : Int) (hva : ∀ F : List D → Mem → Prop, F [.int k] M → va γ M F) (hk0 : -4611686018427387904 ≤ k) (hk1 : k < 4611686018427387904) (Pa : Nat → List D → Prop) (a0 : Pa 0 []) (hl : ∀ i acc, Pa i acc → acc.length < sizeLine)
    (step : ∀ i acc p, M p = none → Pa i acc → i < k.toNat → g (.int (i : Int)) (gwipe γ vs) (mset M p (.lst acc)) fun γ2 M2 => t γ2 M2 fun b M3 =>
      (b = true → e γ2 M3 fun y M4 => pureD y = true ∧ ∃ M5, M4 = mset M5 p (.lst acc) ∧ M5 = M ∧ Pa (i + 1) (acc ++ [y])) ∧ (b = false → ∃ M5, M3 = mset M5 p (.lst acc) ∧ M5 = M ∧ Pa (i + 1) acc))
    (hR : ∀ acc, Pa k.toNat acc → R (.lst acc) M) : vLc (wRng1 va) g t e vs γ M R :=
  hva _ ⟨hk0, hk1, lc_still (j := ⟨rngD 0 k.toNat, fun _ => True⟩) Pa a0 hl (fun _ _ _ => trivial) (fun i acc d p hp ha hd => by
    obtain ⟨h1, rfl⟩ := (rngD_get _ _ _ _).mp hd
    rw [Int.zero_add]
    exact step i acc p hp ha h1) (fun acc ha => hR acc (by
    have e : (⟨rngD 0 k.toNat, fun _ => True⟩ : ItD).its.length = k.toNat := rngD_len 0 _
    rw [e] at ha; exact ha))⟩
theorem seqI_own {M : Mem} {a : Addr} {ds : List D} (h : M a = some (.lst ds)) : seqI M (.own a) = some ds := by
  show (match M a with | some (.lst xs) => some xs | _ => none) = _
  rw [h]
theorem vlc_own {ve : DE} {g : DG} {t : DT} {e : DE} {vs : List Nat} {γ : Gm} {M M1 : Mem} {R : DR} (a : Addr) (ds : List D) (hve : ∀ F : DR, F (.own a) M1 → ve γ M F) (ha : M1 a = some (.lst ds)) (Pa : Nat → List D → Prop) (a0 : Pa 0 []) (hl : ∀ i acc, Pa i acc → acc.length < sizeLine)
    (step : ∀ i acc d p, M1 p = none → Pa i acc → ds[i]? = some d → g d (gwipe γ vs) (mset M1 p (.lst acc)) fun γ2 M2 => t γ2 M2 fun b M3 =>
      (b = true → e γ2 M3 fun y M4 => pureD y = true ∧ ∃ M5, M4 = mset M5 p (.lst acc) ∧ M5 = M1 ∧ Pa (i + 1) (acc ++ [y])) ∧ (b = false → ∃ M5, M3 = mset M5 p (.lst acc) ∧ M5 = M1 ∧ Pa (i + 1) acc))
    (hR : ∀ acc, Pa ds.length acc → R (.lst acc) M1) : vLc (wList ve) g t e vs γ M R := by
  refine hve _ ?_
  have e1 := seqI_own ha
  show (match false, seqI M1 (.own a) with | false, some ds => _ | _, _ => False)
  rw [e1]
  refine lc_still (j := liD (.own a) ds) Pa a0 hl (fun p acc hp => ?_) step hR
  have ne : a ≠ p := fun z => by rw [z, hp] at ha; cases ha
  exact seqI_own (by rw [mset_ne ne]; exact ha)
theorem vfor_own {ve : DE} {g : DG} {b : DS} {Ed : DEnds} {γ : Gm} {M M1 : Mem} (a : Addr) (ds : List D) (hve : ∀ F : DR, F (.own a) M1 → ve γ M F) (W : Nat → Gm → Mem → Prop) (ha : M1 a = some (.lst ds)) (h0 : W 0 γ M1) (hst : ∀ i γ' M', W i γ' M' → M' a = some (.lst ds))
    (step : ∀ i d γ' M', W i γ' M' → ds[i]? = some d → g d γ' M' fun γ2 M2 => b { Ed with nx := W (i + 1), ct := W (i + 1), bk := Ed.nx } γ2 M2) (hd : ∀ γ' M', W ds.length γ' M' → Ed.nx γ' M') : vFor (wList ve) g b Ed γ M := by
  refine hve _ ?_
  have e1 := seqI_own ha
  show (match false, seqI M1 (.own a) with | false, some ds => _ | _, _ => False)
  rw [e1]
  exact ⟨W, h0, fun i γ' M' w => seqI_own (hst i γ' M' w), step, hd⟩
theorem ix_of {d : D} {ds : List D} {i : Int} {M : Mem} {R : DR} (h : seqI M d = some ds) : oIx d (.int i) M R = ∃ x, atI ds i = some x ∧ R x M := by
  unfold oIx; rw [h]
theorem ixC_of {a : DE} {n : Nat} {γ : Gm} {M : Mem} {R : DR} {d : D} {ds : List D} (h : seqI M d = some ds) : (match seqI M d with | some ds => (match nthD ds n with | some x => R x M | none => False) | none => False) = (match nthD ds n with | some x => R x M | none => False) := by rw [h]
/-! ### a block cut in two by a statement of one's own -/
def vSeqJ (a b : DS) : DS := fun Ed γ M => ∃ J : Gm → Mem → Prop, a { Ed with nx := J } γ M ∧ ∀ γ' M', J γ' M' → b Ed γ' M'
section
variable {X : Cx} {C : Addr} {st : Stmt} {rest : List Stmt} {v u : DS}
theorem qss_cut (h1 : QS X C st v) (h2 : QSs X C rest u) : QSs X C (st :: rest) (vSeqJ v u) := by
  obtain ⟨t1, p1, s1⟩ := h1.ex
  obtain ⟨t2, p2, s2⟩ := h2.ex
  refine ⟨_, pss_cons p1 p2, fun Ed γ M σ H E r l h => ?_⟩
  obtain ⟨J, ha, hb⟩ := h
  exact s1 { Ed with nx := J } γ M σ H { E with nx := t2 E } r ⟨fun γ' M' σ' H' r' e' h' => s2 Ed γ' M' σ' H' E r' (l.ext e') (hb γ' M' h'), l.rt, l.bk, l.ct, l.xx⟩ ha
end
theorem sz1 : (1 ≤ sizeLine) = True := eq_true (by decide)
theorem sz2 : (2 ≤ sizeLine) = True := eq_true (by decide)
theorem sz3 : (3 ≤ sizeLine) = True := eq_true (by decide)
theorem sz4 : (4 ≤ sizeLine) = True := eq_true (by decide)
theorem sz5 : (5 ≤ sizeLine) = True := eq_true (by decide)
theorem sz6 : (6 ≤ sizeLine) = True := eq_true (by decide)
theorem sz7 : (7 ≤ sizeLine) = True := eq_true (by decide)
theorem sz8 : (8 ≤ sizeLine) = True := eq_true (by decide)
theorem sz9 : (9 ≤ sizeLine) = True := eq_true (by decide)
theorem sz10 : (10 ≤ sizeLine) = True := eq_true (by decide)
theorem sz11 : (11 ≤ sizeLine) = True := eq_true (by decide)
theorem sz12 : (12 ≤ sizeLine) = True := eq_true (by decide)
theorem sz13 : (13 ≤ sizeLine) = True := eq_true (by decide)
theorem sz14 : (14 ≤ sizeLine) = True := eq_true (by decide)
theorem sz15 : (15 ≤ sizeLine) = True := eq_true (by decide)
theorem sz16 : (16 ≤ sizeLine) = True := eq_true (by decide)
theorem sl0 : (0 < sizeLine) = True := eq_true (by decide)
theorem sl1 : (1 < sizeLine) = True := eq_true (by decide)
theorem sl2 : (2 < sizeLine) = True := eq_true (by decide)
theorem sl3 : (3 < sizeLine) = True := eq_true (by decide)
theorem sl4 : (4 < sizeLine) = True := eq_true (by decide)
theorem sl5 : (5 < sizeLine) = True := eq_true (by decide)
theorem sl6 : (6 < sizeLine) = True := eq_true (by decide)
theorem sl7 : (7 < sizeLine) = True := eq_true (by decide)
theorem sl8 : (8 < sizeLine) = True := eq_true (by decide)
theorem sl9 : (9 < sizeLine) = True := eq_true (by decide)
theorem sl10 : (10 < sizeLine) = True := eq_true (by decide)
theorem sl11 : (11 < sizeLine) = True := eq_true (by decide)
theorem sl12 : (12 < sizeLine) = True := eq_true (by decide)
theorem sl13 : (13 < sizeLine) = True := eq_true (by decide)
theorem sl14 : (14 < sizeLine) = True := eq_true (by decide)
theorem sl15 : (15 < sizeLine) = True := eq_true (by decide)
theorem sl16 : (16 < sizeLine) = True := eq_true (by decide)
end Dl
namespace Dl
open PySem L2
/-! ### lines: the objects of one class -/
def isLn : D → Bool
  | .ln _ _ _ => true
  | _ => false
theorem ln_at {G : Gx} {M : Mem} {H : Hp} {d : D} {v : V} (h : Is G M H d v) (e : isLn d = true) : ∃ a dx q, v = .ref a ∧ H a = some (.ins G.C dx (fLine q)) := by
  cases d with
  | ln t p o =>
    unfold Is at h
    obtain ⟨a, dx, q, e1, _, ha, _⟩ := h
    exact ⟨a, dx, q, e1, ha⟩
  | _ => cases e
/-- a promise of a method: the object ahead of the arguments -/
def vObj (n : Nat) (S : DSp) (o : DE) (a : DA) : DE := fun γ M R => o γ M fun d M1 => isLn d = true ∧ a γ M1 fun ds M2 => ds.length + 1 = n ∧ S (d :: ds) M2 R noX
theorem e_vObj (n : Nat) (S : DSp) (o : DE) (a : DA) (γ : Gm) (M : Mem) (R : DR) : vObj n S o a γ M R = (o γ M fun d M1 => isLn d = true ∧ a γ M1 fun ds M2 => ds.length + 1 = n ∧ S (d :: ds) M2 R noX) := propext Iff.rfl
theorem f_lnL {t p o : Int} : isLn (.ln t p o) = true := id rfl
/-- what a method's rule wants -/
structure MOk (P : Program) (w : World) (K : PySem.W.Frag) (mg : Str → Option Value) (base : Heap) (C : Addr) (k : Nat) (m : Str) (n : Nat) (S : DSp) : Prop where
  ex : ∃ (f : Addr) (fd : FuncData) (ps : List Str), Cls K C ∧ Meth K C m f ∧ (m == ("parts" : Str)) = false ∧ FnOk P w K mg base CX0 k f fd ps (spD ⟨K, C⟩ n S) ∧ Binds K fd ps []
structure POk (P : Program) (w : World) (K : PySem.W.Frag) (mg : Str → Option Value) (base : Heap) (C : Addr) (k : Nat) (f : Str) (S : DSp) : Prop where
  ex : ∃ (p g : Addr) (fd : FuncData) (ps : List Str), Cls K C ∧ PropOf K C f p g ∧ FnOk P w K mg base CX0 k g fd ps (spD ⟨K, C⟩ 1 S) ∧ Binds K fd ps []
structure COk (P : Program) (w : World) (K : PySem.W.Frag) (mg : Str → Option Value) (base : Heap) (C : Addr) (k n : Nat) (S : DSp) : Prop where
  ex : ∃ (g : Addr) (fd : FuncData) (ps : List Str), StX.CallO K C g ∧ FnOk P w K mg base CX0 k g fd ps (spD ⟨K, C⟩ n S) ∧ Binds K fd ps []
/-- an operator's method -/
structure UOk (P : Program) (w : World) (K : PySem.W.Frag) (mg : Str → Option Value) (base : Heap) (C : Addr) (k : Nat) (m : Str) (n : Nat) (S : DSp) : Prop where
  ex : ∃ (f : Addr) (fd : FuncData) (ps : List Str), PySem.W.findIn K (.ref C) m = some (some (.ref f)) ∧ PySem.W.isFn K (.ref f) = true ∧ FnOk P w K mg base CX0 k f fd ps (spD ⟨K, C⟩ n S) ∧ Binds K fd ps []
/-- what an operator with an int at its right asks of the class -/
structure BinF (K : PySem.W.Frag) (C : Addr) (op : Operator) : Prop where
  first : PySem.W.selfFirst K C = true
  r : PySem.W.findIn K (.ref C) (dunderR op.info.2) = some none
  ii : ∃ fo, PySem.W.findIn K (.type "int") (PySem.dunder op.info.2) = some fo
  ir : ∃ ro, PySem.W.findIn K (.type "int") (dunderR op.info.2) = some ro
  sub : PySem.W.subIn K (.type "int") (.ref C) = some false
section
variable {X : Cx} {C : Addr} {j k n : Nat} {S : DSp} {o e fe : Expr} {es : List Expr} {vo vf : DE} {va : DA} {m : Str} {pos apos : Pos}
theorem raw0 {P : Program} {w : World} {K : PySem.W.Frag} {mg : Str → Option Value} {base : Heap} {f : Addr} {fd : FuncData} {ps : List Str} {sp : Sp} (F : FnOk P w K mg base CX0 k f fd ps sp) (hb : Binds K fd ps []) : FnR P w K mg base CX0 k f sp :=
  (F.raw hb .nil).imp fun vs H Q E h => by rw [List.append_nil]; exact h
theorem lk_parts {q : Addr} (h : (m == ("parts" : Str)) = false) : (fLine q).lookup m = none := by
  show List.lookup m [(_, _)] = none
  rw [List.lookup_cons, h]; rfl
theorem spD_of {G : Gx} {M M1 M2 : Mem} {R : DR} {d : D} {ds : List D} {x : V} {xs : List V} {H H1 H2 : Hp} {Q : VK} (hl : ds.length + 1 = n) (i1 : Is G M1 H1 d x) (o2 : Own G M2 H2) (i2 : IsL G M2 H2 ds xs) (e1 : Ext M M1 H H1) (e2 : Ext M1 M2 H1 H2) (hs : S (d :: ds) M2 R noX)
    (k : ∀ d M' x H', Own G M' H' → Is G M' H' d x → Ext M M' H H' → R d M' → Q x H') (E : XK) : spD G n S (x :: xs) H2 Q E :=
  ⟨d :: ds, M2, R, hl, IsL.cons (Is.ext e2 d x i1) i2, o2, hs, fun d' M3 y H3 o3 i3 e3 h3 => k d' M3 y H3 o3 i3 ((e1.trans e2).trans e3) h3⟩
theorem q_meth (h : MOk X.prog X.w X.K X.mg X.base C k m n S) (hr : Room j X.A) (hkj : k ≤ j) (ho : QE X C o vo) (ha : QA X C (e :: es) va)
    (hpe : ∀ {f : Addr} {fd : FuncData} {ps : List Str} {sp : Sp} {to : TE} {ta : TA}, PE X o to → Cls X.K C → Meth X.K C m f → FnOk X.prog X.w X.K X.mg X.base CX0 k f fd ps sp → Room k X.A → Binds X.K fd ps [] → PA X (e :: es) ta → PE X (.Call (.Attribute o m apos) (e :: es) [] pos) (tMeth C m sp [] E0 to ta) := by exact fun h1 h2 h3 h4 h5 h6 h7 => pe_meth h1 h2 h3 h4 h5 h6 .nil pass0 h7) :
    QE X C (.Call (.Attribute o m apos) (e :: es) [] pos) (vObj n S vo va) := by
  obtain ⟨f, fd, ps, c, hm, hp, F, hb⟩ := h.ex
  obtain ⟨to, po, so⟩ := ho.ex
  obtain ⟨ta, pa, sa⟩ := ha.ex
  refine ⟨_, hpe po c hm F (hr.mono hkj) hb pa, fun γ M R σ H Q r h kk => so γ M _ σ H _ r h fun d M1 x H1 o1 i1 e1 h1 => ?_⟩
  obtain ⟨hd, h1⟩ := h1
  obtain ⟨a, dx, q, ex, hx⟩ := ln_at i1 hd
  refine ⟨a, dx, _, ex, hx, lk_parts hp, sa γ M1 _ σ H1 _ (r.mk' e1 o1) h1 fun ds M2 xs H2 o2 i2 e2 h2 => ?_⟩
  rw [List.append_nil]
  exact spD_of h2.1 i1 o2 i2 e1 e2 h2.2 kk _
theorem q_meth0 (h : MOk X.prog X.w X.K X.mg X.base C k m n S) (hr : Room j X.A) (hkj : k ≤ j) (ho : QE X C o vo)
    (hpe : ∀ {f : Addr} {fd : FuncData} {ps : List Str} {sp : Sp} {to : TE}, PE X o to → Cls X.K C → Meth X.K C m f → FnOk X.prog X.w X.K X.mg X.base CX0 k f fd ps sp → Room k X.A → Binds X.K fd ps [] → PE X (.Call (.Attribute o m apos) [] [] pos) (tMeth C m sp [] E0 to tNil) := by exact fun h1 h2 h3 h4 h5 h6 => pe_meth0 h1 h2 h3 h4 h5 h6 .nil pass0) :
    QE X C (.Call (.Attribute o m apos) [] [] pos) (vObj n S vo vNil) := by
  obtain ⟨f, fd, ps, c, hm, hp, F, hb⟩ := h.ex
  obtain ⟨to, po, so⟩ := ho.ex
  refine ⟨_, hpe po c hm F (hr.mono hkj) hb, fun γ M R σ H Q r h kk => so γ M _ σ H _ r h fun d M1 x H1 o1 i1 e1 h1 => ?_⟩
  obtain ⟨hd, h1⟩ := h1
  obtain ⟨a, dx, q, ex, hx⟩ := ln_at i1 hd
  refine ⟨a, dx, _, ex, hx, lk_parts hp, ?_⟩
  show spD _ n S (x :: []) H1 Q E0
  exact spD_of h1.1 i1 o1 IsL.nil e1 Ext.refl h1.2 kk _
theorem q_prop (h : POk X.prog X.w X.K X.mg X.base C k m S) (hr : Room j X.A) (hkj : k + 1 ≤ j) (ho : QE X C o vo) (hab : attributeBase o m X.env (eval o X.env) = eval o X.env := by rfl) : QE X C (.Attribute o m pos) (vObj 1 S vo vNil) := by
  obtain ⟨p, g, fd, ps, c, hp, F, hb⟩ := h.ex
  obtain ⟨to, po, so⟩ := ho.ex
  refine ⟨_, pe_prop po c hp F (hr.mono hkj) hb .nil (E := E0) pass0 hab, fun γ M R σ H Q r h kk => so γ M _ σ H _ r h fun d M1 x H1 o1 i1 e1 h1 => ?_⟩
  obtain ⟨hd, h1⟩ := h1
  obtain ⟨a, dx, q, ex, hx⟩ := ln_at i1 hd
  refine ⟨a, dx, _, ex, hx, ?_⟩
  rw [← ex]
  exact spD_of h1.1 i1 o1 IsL.nil e1 Ext.refl h1.2 kk _
theorem q_callO (h : COk X.prog X.w X.K X.mg X.base C k n S) (hr : Room j X.A) (hkj : k ≤ j) (hf : QE X C fe vf) (ha : QA X C (e :: es) va)
    (ht : eval (.Call fe (e :: es) [] pos) X.env = (do callWith pos (← eval fe X.env) [] (backTo pos (starEach (e :: es) X.env)) (backToKw pos (keywordEach [] X.env))) := by rfl)
    (he : starEach (e :: es) X.env = (false, eval e X.env) :: starEach es X.env := by rfl) (hpl : (backTo pos (starEach es X.env)).any (·.1) = false := by rfl) : QE X C (.Call fe (e :: es) [] pos) (vObj n S vf va) := by
  obtain ⟨g, fd, ps, c, F, hb⟩ := h.ex
  obtain ⟨to, po, so⟩ := hf.ex
  obtain ⟨ta, pa, sa⟩ := ha.ex
  refine ⟨_, StX.pe_callO (E := E0) po c (raw0 F hb) (hr.mono hkj) pass0 pa ht he hpl, fun γ M R σ H Q r h kk => so γ M _ σ H _ r h fun d M1 x H1 o1 i1 e1 h1 => ?_⟩
  obtain ⟨hd, h1⟩ := h1
  obtain ⟨a, dx, q, ex, hx⟩ := ln_at i1 hd
  refine ⟨a, ex, sa γ M1 _ σ H1 _ (r.mk' e1 o1) h1 fun ds M2 xs H2 o2 i2 e2 h2 => ⟨?_, ?_⟩⟩
  · obtain ⟨a', dx', q', ex', hx'⟩ := ln_at (Is.ext e2 d x i1) hd
    have : a' = a := by rw [ex] at ex'; cases ex'; rfl
    subst this
    exact .inr ⟨dx', _, hx'⟩
  · rw [← ex]
    exact spD_of h2.1 i1 o2 i2 e1 e2 h2.2 kk _
/-! ### operators -/
theorem inv_fr {pins : List (Addr × Obj)} {σ : St} {H : Hp} {s : Shared} (I : Inv X pins σ H s) : ∃ m, PyProof.Rows.Fr X.base X.env.locals s.heap m := by
  obtain ⟨m, hm, _⟩ := I.loc
  exact ⟨m, hm, fun b o e => (I.bs b o e).1, Nat.le_trans I.ok.bsz I.ok.above⟩
theorem inst_at {pins : List (Addr × Obj)} {σ : St} {H : Hp} {s : Shared} {a dx : Addr} {fs : List (Str × V)} (I : Inv X pins σ H s) (ea : H a = some (.ins C dx fs)) : ∃ ox od, PySem.W.InstAt s.heap a ox C od := by
  obtain ⟨mA, O, _⟩ := ins_get I.hok ea
  obtain ⟨od, J, _⟩ := O.look
  exact ⟨_, _, J⟩
def rUnO (C : Addr) (sp : Sp) : V → Hp → VK → Prop := fun x H Q => ∃ a dx fs, x = .ref a ∧ H a = some (.ins C dx fs) ∧ sp [x] H Q E0
theorem un_negO {f : Addr} {sp : Sp} (hs : PySem.W.findIn X.K (.ref C) "__neg__" = some (some (.ref f))) (hf : PySem.W.isFn X.K (.ref f) = true) (F : FnR X.prog X.w X.K X.mg X.base CX0 k f sp) (hr : Room k X.A) : UnR X (unaryOp .USub) (rUnO C sp) := by
  intro pins s σ H x v Q I rx h
  obtain ⟨a, dx, fs, rfl, ea, hsp⟩ := h
  obtain rfl : v = Value.ref a := rx
  obtain ⟨m, Fr⟩ := inv_fr I
  obtain ⟨ox, od, J⟩ := inst_at I ea
  exact PySem.W.ksp_neg Fr I.ok.mod.kin J hs hf (wpAny_call (run_fnR (E := E0) (us := [.ref a]) (vs := [.ref a]) F hr pass0 I (.cons rfl .nil) hsp))
def rBinO (C : Addr) (sp : Sp) : R2 := fun x y H Q => ∃ a dx fs i, x = .ref a ∧ H a = some (.ins C dx fs) ∧ y = .int i ∧ sp [x, y] H Q E0
theorem cmpBack {pins : List (Addr × Obj)} {σ : St} {Q : VK} {v : Value} {s : Shared} (h : EP X pins σ Q v s) : PySem.W.CmpBack (EP X pins σ Q) v s := by
  cases v with
  | notImplemented =>
    obtain ⟨x, H, _, r, _⟩ := h
    cases x <;> first | (obtain ⟨_, r⟩ := r; cases r; done) | (cases r; done)
  | _ => exact h
theorem op_binO {op : Operator} {f : Addr} {sp : Sp} (hs : PySem.W.findIn X.K (.ref C) (PySem.dunder op.info.2) = some (some (.ref f))) (hf : PySem.W.isFn X.K (.ref f) = true) (B : BinF X.K C op) (F : FnR X.prog X.w X.K X.mg X.base CX0 k f sp) (hr : Room k X.A) : OpR X (binaryOp op) (rBinO C sp) := by
  intro pins s σ H x y v u Q I rx ry h
  obtain ⟨a, dx, fs, i, rfl, ea, rfl, hsp⟩ := h
  obtain rfl : v = Value.ref a := rx
  obtain ⟨t, rfl⟩ := ry
  obtain ⟨m, Fr⟩ := inv_fr I
  obtain ⟨ox, od, J⟩ := inst_at I ea
  obtain ⟨fo, h1⟩ := B.ii
  obtain ⟨ro, h2⟩ := B.ir
  refine PySem.W.ksp_binT (T := "int") Fr I.ok.mod.kin J rfl B.first hs hf B.r (.inl rfl) h1 h2 B.sub ?_
  refine wpAny_mono (wpAny_call (run_fnR (E := E0) (us := [.ref a, .int i t]) (vs := [.ref a, .int i]) F hr pass0 I (.cons rfl (.cons ⟨t, rfl⟩ .nil)) hsp)) (fun v s' z => cmpBack z) fun _ _ z => z
/-- -x of a line -/
def vNegL (S : DSp) (a : DE) : DE := fun γ M R => a γ M fun d M1 => isLn d = true ∧ S [d] M1 R noX
theorem e_vNegL (S : DSp) (a : DE) (γ : Gm) (M : Mem) (R : DR) : vNegL S a γ M R = (a γ M fun d M1 => isLn d = true ∧ S [d] M1 R noX) := propext Iff.rfl
theorem q_negL (h : UOk X.prog X.w X.K X.mg X.base C k "__neg__" 1 S) (hr : Room j X.A) (hkj : k ≤ j) (ho : QE X C o vo) : QE X C (.UnaryOp .USub o pos) (vNegL S vo) := by
  obtain ⟨f, fd, ps, hm, hf, F, hb⟩ := h.ex
  obtain ⟨to, po, so⟩ := ho.ex
  refine ⟨_, pe_un (un_negO hm hf (raw0 F hb) (hr.mono hkj)) po, fun γ M R σ H Q r h kk => so γ M _ σ H _ r h fun d M1 x H1 o1 i1 e1 h1 => ?_⟩
  obtain ⟨a, dx, q, ex, hx⟩ := ln_at i1 h1.1
  exact ⟨a, dx, _, ex, hx, spD_of rfl i1 o1 IsL.nil e1 Ext.refl h1.2 kk _⟩
def oBinL (S : DSp) : DO := fun d e M R => isLn d = true ∧ isIntD e = true ∧ S [d, e] M R noX
theorem e_oBinL (S : DSp) (d e : D) (M : Mem) (R : DR) : oBinL S d e M R = (isLn d = true ∧ isIntD e = true ∧ S [d, e] M R noX) := propext Iff.rfl
theorem sndO_binL {G : Gx} : SndO G (rBinO G.C (spD G 2 S)) (oBinL S) := fun d e M R H x y Q o i1 i2 h kk => by
  obtain ⟨h1, h2, h3⟩ := h
  obtain ⟨a, dx, q, ex, hx⟩ := ln_at i1 h1
  cases e with
  | int i =>
    have i3 := i2
    unfold Is at i3
    exact ⟨a, dx, _, i, ex, hx, i3, spD_of rfl i1 o (IsL.cons i2 IsL.nil) Ext.refl Ext.refl h3 kk _⟩
  | _ => cases h2
theorem q_binL {op : Operator} (h : UOk X.prog X.w X.K X.mg X.base C k (PySem.dunder op.info.2) 2 S) (B : BinF X.K C op) (hr : Room j X.A) (hkj : k ≤ j) (ho : QE X C o vo) (he : QE X C e vf) : QE X C (.BinOp o op e pos) (vOp (oBinL S) vo vf) := by
  obtain ⟨f, fd, ps, hm, hf, F, hb⟩ := h.ex
  exact qe_op (op_binO hm hf B (raw0 F hb) (hr.mono hkj)) sndO_binL ho he
/-! ### the parts of a line, read within its class -/
def vParts (a : DE) : DE := fun γ M R => a γ M fun d M1 => match d with
  | .ln t p o => R (.tup [.int t, .int p, .int o]) M1
  | _ => False
theorem e_vParts (a : DE) (γ : Gm) (M : Mem) (R : DR) : vParts a γ M R = (a γ M fun d M1 => match d with
  | .ln t p o => R (.tup [.int t, .int p, .int o]) M1
  | _ => False) := propext Iff.rfl
theorem q_parts (c : Cls X.K C) (n : NoAttr X.K C "parts") (ho : QE X C o vo) (hab : attributeBase o "parts" X.env (eval o X.env) = eval o X.env := by rfl) : QE X C (.Attribute o "parts" pos) (vParts vo) := by
  obtain ⟨to, po, so⟩ := ho.ex
  refine ⟨_, pe_fld po hab, fun γ M R σ H Q r h kk => so γ M _ σ H _ r h fun d M1 x H1 o1 i1 e1 h1 => ?_⟩
  cases d with
  | ln t p o =>
    have i2 := i1
    unfold Is at i2
    obtain ⟨a, dx, q, ex, ma, ha, mq, hq⟩ := i2
    refine ⟨a, C, dx, _, .ref q, ex, ha, c, n, rfl, ?_⟩
    refine kk _ M1 _ H1 o1 ?_ e1 h1
    unfold Is
    exact ⟨q, _, rfl, mq, hq, IsL.cons is_int (IsL.cons is_int (IsL.cons is_int IsL.nil))⟩
  | _ => exact False.elim h1
/-! ### a new line -/
/-- what __init__ promises -/
def spLn (C : Addr) : Sp := fun vs H Q _ => ∃ x dx t p o, vs = [.ref x, .int t, .int p, .int o] ∧ H x = some (.ins C dx []) ∧ 1 ≤ o ∧
  ∀ q H', (∀ b u, b ≠ x → H b = some u → H' b = some u) → H q = none → q ≠ x → H' x = some (.ins C dx (fLine q)) → H' q = some (.tup [.int t, .int p, .int o]) → Q .non H'
structure LMk (P : Program) (w : World) (K : PySem.W.Frag) (mg : Str → Option Value) (base : Heap) (C : Addr) (k : Nat) : Prop where
  ex : ∃ (f : Addr) (fd : FuncData) (ps : List Str), mg "Line" = some (.ref C) ∧ Mk K C f ∧ FnOk P w K mg base CX0 k f fd ps (spLn C) ∧ Binds K fd ps []
def vLine (a : DA) : DE := fun γ M R => a γ M fun ds M1 => match ds with
  | [.int t, .int p, .int o] => 1 ≤ o ∧ R (.ln t p o) M1
  | _ => False
theorem e_vLine (a : DA) (γ : Gm) (M : Mem) (R : DR) : vLine a γ M R = (a γ M fun ds M1 => match ds with
  | [.int t, .int p, .int o] => 1 ≤ o ∧ R (.ln t p o) M1
  | _ => False) := propext Iff.rfl
theorem snd_line {G : Gx} {M M1 : Mem} {R : DR} {H H1 : Hp} {Q : VK} {t p o : Int} (o1 : Own G M1 H1) (e1 : Ext M M1 H H1) (ho : 1 ≤ o) (hr : R (.ln t p o) M1) (kk : ∀ d M' x H', Own G M' H' → Is G M' H' d x → Ext M M' H H' → R d M' → Q x H') :
    ∀ x dx, H1 x = none → H1 dx = none → dx ≠ x → spLn G.C (.ref x :: ([.int t, .int p, .int o] ++ [])) (upd (upd H1 dx (.own x)) x (.ins G.C dx [])) (fun v H2 => v = .non ∧ Q (.ref x) H2) E0 := by
  intro x dx hx hdx hne
  refine ⟨x, dx, t, p, o, rfl, upd_same, ho, fun q H' keep hq hqx hx' hq' => ⟨rfl, ?_⟩⟩
  have hold : ∀ b u, H1 b = some u → H' b = some u := fun b u hb => by
    have n1 : b ≠ x := fun z => by rw [z, hx] at hb; cases hb
    have n2 : b ≠ dx := fun z => by rw [z, hdx] at hb; cases hb
    exact keep b u n1 (by rw [upd_ne n1, upd_ne n2]; exact hb)
  have hq1 : H1 q = none := by
    cases z : H1 q with
    | none => rfl
    | some u =>
      have n1 : q ≠ dx := fun y => by rw [y, hdx] at z; cases z
      rw [upd_ne hqx, upd_ne n1, z] at hq
      cases hq
  have ext : Ext M1 M1 H1 H' := ⟨fun a u m h => ⟨hold a u h, m⟩, fun _ h => h⟩
  refine kk _ M1 _ H' (o1.ext ext fun a ha => ?_) ?_ (e1.trans ext) hr
  · obtain ⟨u, hu⟩ := o1.there ha
    rw [hold a u hu, hu]
  · unfold Is
    exact ⟨x, dx, q, rfl, o1.fresh hx, hx', o1.fresh hq1, hq'⟩
theorem q_line {p : Pos} (h : LMk X.prog X.w X.K X.mg X.base C k) (hr : Room j X.A) (hkj : k + 1 ≤ j) (ha : QA X C (e :: es) va) (hg : Gl X "Line" := by rfl) (he : starEach (e :: es) X.env = (false, eval e X.env) :: starEach es X.env := by rfl) (hpl : (backTo pos (starEach es X.env)).any (·.1) = false := by rfl) :
    QE X C (.Call (.Name "Line" p) (e :: es) [] pos) (vLine va) := by
  obtain ⟨f, fd, ps, hm, mk, F, hb⟩ := h.ex
  obtain ⟨ta, pa, sa⟩ := ha.ex
  refine ⟨_, pe_make (E := E0) mk F (hr.mono hkj) hg hm hb .nil pass0 pa (by decide) he hpl, fun γ M R σ H Q r h kk => sa γ M _ σ H _ r h fun ds M1 xs H1 o1 i1 e1 h1 => ?_⟩
  match ds, h1 with
  | [.int t, .int p, .int o], h1 =>
    obtain ⟨v1, v2, v3, ev, j1, j2, j3⟩ := isL3 i1
    unfold Is at j1 j2 j3
    subst ev
    subst j1
    subst j2
    subst j3
    exact snd_line o1 e1 h1.1 h1.2 kk
end
/-! ### == of two lines, isinstance -/
section
variable {X : Cx} {C : Addr} {j k : Nat} {S : DSp} {o e : Expr} {vo vf : DE} {pos : Pos}
def rEqO (C : Addr) (sp : Sp) : R2 := fun x y H Q => ∃ a dx fs b dy gs, x = .ref a ∧ H a = some (.ins C dx fs) ∧ y = .ref b ∧ H b = some (.ins C dy gs) ∧ sp [x, y] H Q E0
theorem op_eqO {f : Addr} {sp : Sp} (hs : PySem.W.findIn X.K (.ref C) "__eq__" = some (some (.ref f))) (hf : PySem.W.isFn X.K (.ref f) = true) (F : FnR X.prog X.w X.K X.mg X.base CX0 k f sp) (hr : Room k X.A) : OpR X (compareOp .Eq) (rEqO C sp) := by
  intro pins s σ H x y v u Q I rx ry h
  obtain ⟨a, dx, fs, b, dy, gs, rfl, ea, rfl, eb, hsp⟩ := h
  obtain rfl : v = Value.ref a := rx
  obtain rfl : u = Value.ref b := ry
  obtain ⟨m, Fr⟩ := inv_fr I
  obtain ⟨ox, od, J⟩ := inst_at I ea
  obtain ⟨oy, od', J'⟩ := inst_at I eb
  show wpAny _ _ (PySem.richCompare .Eq (.ref a) (.ref b)) _ _ _
  refine PySem.W.cmp_K (K := X.K) (C := C) (op := .Eq) hr.units0 Fr I.ok.mod.kin J J'.type (by simp [PySem.W.notFirst]) hs hf ?_
  exact wpAny_mono (wpAny_call (run_fnR (E := E0) (us := [.ref a, .ref b]) (vs := [.ref a, .ref b]) F hr pass0 I (.cons rfl (.cons rfl .nil)) hsp)) (fun v s' z => cmpBack z) fun _ _ z => z
def oEqL (S : DSp) : DO := fun d e M R => isLn d = true ∧ isLn e = true ∧ S [d, e] M R noX
theorem e_oEqL (S : DSp) (d e : D) (M : Mem) (R : DR) : oEqL S d e M R = (isLn d = true ∧ isLn e = true ∧ S [d, e] M R noX) := propext Iff.rfl
theorem sndO_eqL {G : Gx} : SndO G (rEqO G.C (spD G 2 S)) (oEqL S) := fun d e M R H x y Q o i1 i2 h kk => by
  obtain ⟨h1, h2, h3⟩ := h
  obtain ⟨a, dx, q, ex, hx⟩ := ln_at i1 h1
  obtain ⟨b, dy, q', ey, hy⟩ := ln_at i2 h2
  exact ⟨a, dx, _, b, dy, _, ex, hx, ey, hy, spD_of rfl i1 o (IsL.cons i2 IsL.nil) Ext.refl Ext.refl h3 kk _⟩
theorem c_eqL (h : UOk X.prog X.w X.K X.mg X.base C k "__eq__" 2 S) (hr : Room j X.A) (hkj : k ≤ j) : CmpQ X C .Eq (oEqL S) := by
  obtain ⟨f, fd, ps, hm, hf, F, hb⟩ := h.ex
  exact ⟨_, op_eqO hm hf (raw0 F hb) (hr.mono hkj), sndO_eqL⟩
/-- isinstance(x, Line) -/
structure IsiF (K : PySem.W.Frag) (mg : Str → Option Value) (C : Addr) : Prop where
  glo : mg "Line" = some (.ref C)
  kp : PySem.W.keepIn K (.ref C) = true
  cls : Cls K C
  attr : PySem.W.findIn K (.ref C) "__class__" = some (some (.builtin "object.__class__"))
  get : PySem.W.specialIn K (.builtin "object.__class__") "__get__" = some (some (.builtin "getset_descriptor.__get__"))
  tak : PySem.W.takesIn K (.builtin "object.__class__") = some true
  top : PySem.W.mroIn K C (.type "object") = some true
  no : ∀ t : Ty, PySem.W.kitOne K (.type t.nm) (.ref C) = some false
  no2 : ∀ t : Ty, PySem.W.kitOne K (.ref C) (.type t.nm) = some false
def tyL : D → Bool
  | .ln _ _ _ => true
  | d => (tyD d).isSome
def vIsL (a : DE) : DE := fun γ M R => a γ M fun d M1 => tyL d = true ∧ R (.bl (isLn d)) M1
theorem e_vIsL (a : DE) (γ : Gm) (M : Mem) (R : DR) : vIsL a γ M R = (a γ M fun d M1 => tyL d = true ∧ R (.bl (isLn d)) M1) := propext Iff.rfl
theorem q_isL {x : Str} {p p2 : Pos} (T : IsiF X.K X.mg C) (ha : QE X C o vo) (hg : Gl X x) (hm : X.mg x = none) (hv : bootBuiltins x = some (.builtin "isinstance")) (hg2 : Gl X "Line" := by rfl) (hn : x ≠ "__name__" := by decide) (hdb : (x == ("__debug__" : Str)) = false := by decide)
    (he : starEach (o :: [.Name "Line" p2]) X.env = (false, eval o X.env) :: starEach [.Name "Line" p2] X.env := by rfl) (he2 : starEach [.Name "Line" p2] X.env = (false, eval (.Name "Line" p2) X.env) :: starEach [] X.env := by rfl) (hpl : (backTo pos (starEach [.Name "Line" p2] X.env)).any (·.1) = false := by rfl) :
    QE X C (.Call (.Name x p) [o, .Name "Line" p2] [] pos) (vIsL vo) := by
  obtain ⟨ta, pa, sa⟩ := ha.ex
  refine ⟨_, pe_callB call_isi hg hm hv (pa_cons pa (pa_cons (pe_glob (v := .ref C) hg2 T.glo rfl) pa_nil he2) he) hn hdb he hpl, fun γ M R σ H Q re h k => sa γ M _ σ H _ re h fun d M1 x1 H1 o1 i1 e1 h1 => ?_⟩
  cases d with
  | ln t q o =>
    have i2 := i1
    unfold Is at i2
    obtain ⟨a, dx, q, ex, ma, hx, mq, hq⟩ := i2
    refine ⟨x1, .ref C, .ref C, _, true, rfl, .own C, ?_, ?_, k _ M1 _ H1 o1 is_bl e1 h1.2⟩
    · rw [ex]; exact .base (.ins hx T.cls T.attr T.get T.tak T.top)
    · unfold PySem.W.kitOne; simp
  | scr _ => exact absurd h1.1 Bool.false_ne_true
  | own _ => exact absurd h1.1 Bool.false_ne_true
  | exn _ _ => exact absurd h1.1 Bool.false_ne_true
  | exn0 _ => exact absurd h1.1 Bool.false_ne_true
  | cls => exact absurd h1.1 Bool.false_ne_true
  | _ =>
    refine ⟨x1, .ref C, _, _, false, rfl, .own C, tyD_ok o1 i1 rfl, T.no _, k _ M1 _ H1 o1 is_bl e1 h1.2⟩
end
/-! ### facts of the class, as Bools over the written part -/
open PySem.W He in
def propG (K : PySem.W.Frag) (C : Addr) (f : Str) : Addr := match PySem.W.recIn K (He.ma K C f) "property" with
  | some (.ref g :: _) => g
  | _ => 0
def propB (K : PySem.W.Frag) (C : Addr) (f : Str) : Bool := He.eqO (PySem.W.findIn K (.ref C) f) (some (some (.ref (He.ma K C f)))) && (He.eqO (PySem.W.specialIn K (.ref (He.ma K C f)) "__get__") (some (some (.builtin "property.__get__"))) && (decide (PySem.W.takesIn K (.ref (He.ma K C f)) = some true) &&
  (match PySem.W.recIn K (He.ma K C f) "property" with
    | some (.ref _ :: _) => true
    | _ => false)))
theorem propB_ok {K : PySem.W.Frag} {C : Addr} {f : Str} (h : propB K C f = true) : PropOf K C f (He.ma K C f) (propG K C f) := by
  obtain ⟨h1, h⟩ := He.ba h
  obtain ⟨h2, h⟩ := He.ba h
  obtain ⟨h3, h4⟩ := He.ba h
  refine ⟨He.eqO_ok h1, He.eqO_ok h2, of_decide_eq_true h3, ?_⟩
  unfold propG
  split at h4
  · rename_i g rest e
    exact ⟨rest, by rw [e]⟩
  · cases h4
def binB (K : PySem.W.Frag) (C : Addr) (op : Operator) : Bool := PySem.W.selfFirst K C && (He.eqO (PySem.W.findIn K (.ref C) (dunderR op.info.2)) (some none) && ((PySem.W.findIn K (.type "int") (PySem.dunder op.info.2)).isSome && ((PySem.W.findIn K (.type "int") (dunderR op.info.2)).isSome && decide (PySem.W.subIn K (.type "int") (.ref C) = some false))))
theorem binB_ok {K : PySem.W.Frag} {C : Addr} {op : Operator} (h : binB K C op = true) : BinF K C op := by
  obtain ⟨h1, h⟩ := He.ba h
  obtain ⟨h2, h⟩ := He.ba h
  obtain ⟨h3, h⟩ := He.ba h
  obtain ⟨h4, h5⟩ := He.ba h
  exact ⟨h1, He.eqO_ok h2, Option.isSome_iff_exists.mp h3, Option.isSome_iff_exists.mp h4, of_decide_eq_true h5⟩
def opB (K : PySem.W.Frag) (C : Addr) (m : Str) : Bool := He.eqO (PySem.W.findIn K (.ref C) m) (some (some (.ref (He.ma K C m)))) && PySem.W.isFn K (.ref (He.ma K C m))
theorem opB_ok {K : PySem.W.Frag} {C : Addr} {m : Str} (h : opB K C m = true) : PySem.W.findIn K (.ref C) m = some (some (.ref (He.ma K C m))) ∧ PySem.W.isFn K (.ref (He.ma K C m)) = true := ⟨He.eqO_ok (He.ba h).1, (He.ba h).2⟩
def callB (K : PySem.W.Frag) (C : Addr) : Bool := opB K C "__call__" && PySem.W.fnIn K (He.ma K C "__call__")
theorem callB_ok {K : PySem.W.Frag} {C : Addr} (h : callB K C = true) : StX.CallO K C (He.ma K C "__call__") := ⟨(opB_ok (He.ba h).1).1, (opB_ok (He.ba h).1).2, (He.ba h).2⟩
def isiB (K : PySem.W.Frag) (C : Addr) : Bool := PySem.W.keepIn K (.ref C) && (He.eqO (PySem.W.findIn K (.ref C) "__class__") (some (some (.builtin "object.__class__"))) && (He.eqO (PySem.W.specialIn K (.builtin "object.__class__") "__get__") (some (some (.builtin "getset_descriptor.__get__"))) &&
  (decide (PySem.W.takesIn K (.builtin "object.__class__") = some true) && (decide (PySem.W.mroIn K C (.type "object") = some true) && [Ty.non, .bl, .int, .str, .tup, .lst, .dct].all fun t => decide (PySem.W.kitOne K (.type t.nm) (.ref C) = some false) && decide (PySem.W.kitOne K (.ref C) (.type t.nm) = some false)))))
theorem isiB_ok {K : PySem.W.Frag} {mg : Str → Option Value} {C : Addr} (g : mg "Line" = some (.ref C)) (c : Cls K C) (h : isiB K C = true) : IsiF K mg C := by
  obtain ⟨h1, h⟩ := He.ba h
  obtain ⟨h2, h⟩ := He.ba h
  obtain ⟨h3, h⟩ := He.ba h
  obtain ⟨h4, h⟩ := He.ba h
  obtain ⟨h5, h6⟩ := He.ba h
  exact ⟨g, h1, c, He.eqO_ok h2, He.eqO_ok h3, of_decide_eq_true h4, of_decide_eq_true h5, fun t => of_decide_eq_true (He.ba (List.all_eq_true.mp h6 t (by cases t <;> simp))).1, fun t => of_decide_eq_true (He.ba (List.all_eq_true.mp h6 t (by cases t <;> simp))).2⟩
/-! ### the head's facts, with one Bool more -/
def ob2 (ex : PySem.W.Frag → Bool) (fa : List He.Fa) (fn : List He5.DefA) (K : PySem.W.Frag) : He.AlD := ((He5.obsA fa fn K).1 && ex K, (He5.obsA fa fn K).2)
def Says2 (ex : PySem.W.Frag → Bool) (fa : List He.Fa) (fn : List He5.DefA) (K : PySem.W.Frag) : Prop := ob2 ex fa fn K = He5.valA fn
theorem Says2.both {ex : PySem.W.Frag → Bool} {fa : List He.Fa} {fn : List He5.DefA} {K : PySem.W.Frag} (c : Says2 ex fa fn K) : He5.SaysA fa fn K ∧ ex K = true := by
  have c' : ob2 ex fa fn K = He5.valA fn := c
  have h1 : ((He5.obsA fa fn K).1 && ex K) = true := congrArg (fun z : He.AlD => z.1) c'
  have h2 : (ob2 ex fa fn K).2 = (He5.valA fn).2 := congrArg (fun z : He.AlD => z.2) c'
  obtain ⟨a, b⟩ := He.ba h1
  exact ⟨Prod.ext a h2, b⟩
def ob2G (n : Nat) (ex : PySem.W.Frag → Bool) (fa : List He.Fa) (fn : List He5.DefA) (g : Addr → Option Obj) : He.AlD := ob2 ex fa fn (He.frG g (He5.asA g n))
def hook2 (n : Nat) (ex : PySem.W.Frag → Bool) (fa : List He.Fa) (fn : List He5.DefA) : PySem.W.Hook where
  α := He.AlD
  obs := fun s => ob2G n ex fa fn s.heap.get?
  val := fun _ => He5.valA fn
  says := fun _ h => ∃ K : PySem.W.Frag, K.In h ∧ Says2 ex fa fn K
  of := fun _ _ e => ⟨_, He.frG_in, e⟩
  keeps := fun _ _ _ z k => let ⟨K, hK, c⟩ := z; ⟨K, PySem.W.Frag.In.keeps hK k, c⟩
theorem ob2G_eq {n : Nat} {ex : PySem.W.Frag → Bool} {fa : List He.Fa} {fn : List He5.DefA} {g : Addr → Option Obj} {s : Shared} (h : ∀ a, g a = s.heap.get? a) : ob2G n ex fa fn g = (hook2 n ex fa fn).obs s := by
  have e : g = s.heap.get? := funext h
  rw [e] <;> rfl
theorem fn_is {K : PySem.W.Frag} {x qual : Str} {params : Arguments} {body : List Stmt} {scope : Scope} {dvs : List V} {kws : List (Str × V)} {f : Addr} {fd : FuncData} (F : FunD K x qual params body scope dvs kws f fd) : PySem.W.fnIn K f = true := by
  obtain ⟨oc, od, dV, kV, doc, pm, an, cdv, ct, osl, e, lk, _⟩ := F.ex
  unfold PySem.W.fnIn
  rw [lk]
end Dl
namespace Dl
open PySem L2
/-! ### list.clear -/
section
variable {X : Cx} {C : Addr} {o : Expr} {vo : DE} {pos apos : Pos}
def vClear (o : DE) : DE := fun γ M R => o γ M fun od M1 => match od with
  | .own a => (match M1 a with
    | some (.lst _) => R .non (mset M1 a (.lst []))
    | _ => False)
  | _ => False
theorem e_vClear (o : DE) (γ : Gm) (M : Mem) (R : DR) : vClear o γ M R = (o γ M fun od M1 => match od with
  | .own a => (match M1 a with
    | some (.lst _) => R .non (mset M1 a (.lst []))
    | _ => False)
  | _ => False) := propext Iff.rfl
theorem q_clear (ho : QE X C o vo) (hpe : ∀ {to : TE}, PE X o to → PE X (.Call (.Attribute o "clear" apos) [] [] pos) (tBM X.K "list" rClear to tNil) := by exact fun h1 => pe_bm0 PySem.F.plainAttrs_list PySem.F.slot_list_clear PySem.F.type_list_clear mt_clear h1) : QE X C (.Call (.Attribute o "clear" apos) [] [] pos) (vClear vo) := by
  obtain ⟨to, po, so⟩ := ho.ex
  refine ⟨_, hpe po, fun γ M R σ H Q r h k => so γ M _ σ H _ r h fun od M1 x H1 o1 i1 e1 h1 => ?_⟩
  cases od with
  | own a =>
    have j1 := i1
    unfold Is at j1
    have hq : lstAt M1 a = true := by
      simp only at h1
      split at h1
      · rename_i q; exact lstAt_of q
      · exact h1.elim
    obtain ⟨ds, xs, q, pu, ha, hl⟩ := own_list o1 hq
    rw [j1.1]
    simp only [q] at h1
    refine ⟨.inl ⟨rfl, xs, SqL.of ha⟩, a, xs, rfl, rfl, ha, ?_⟩
    exact k .non (mset M1 a (.lst [])) .non _ (o1.put j1.2 rfl IsL.nil) is_non (e1.trans (Ext.put j1.2)) h1
  | _ => exact False.elim h1
end
/-! ### for over any list -/
theorem vfor_seq {ve : DE} {g : DG} {b : DS} {Ed : DEnds} {γ : Gm} {M M1 : Mem} (d : D) (ds : List D) (hve : ∀ F : DR, F d M1 → ve γ M F) (ht : isTup d = false) (hs : seqI M1 d = some ds) (W : Nat → Gm → Mem → Prop) (h0 : W 0 γ M1) (hst : ∀ i γ' M', W i γ' M' → seqI M' d = some ds)
    (step : ∀ i x γ' M', W i γ' M' → ds[i]? = some x → g x γ' M' fun γ2 M2 => b { Ed with nx := W (i + 1), ct := W (i + 1), bk := Ed.nx } γ2 M2) (hd : ∀ γ' M', W ds.length γ' M' → Ed.nx γ' M') : vFor (wList ve) g b Ed γ M := by
  refine hve _ ?_
  show (match isTup d, seqI M1 d with | false, some ds => _ | _, _ => False)
  rw [ht, hs]
  exact ⟨W, h0, hst, step, hd⟩
theorem vfor_enumS {va : DA} {g : DG} {b : DS} {Ed : DEnds} {γ : Gm} {M M1 : Mem} (d : D) (ds : List D) (hva : ∀ F : List D → Mem → Prop, F [d] M1 → va γ M F) (ht : isTup d = false) (hs : seqI M1 d = some ds) (W : Nat → Gm → Mem → Prop) (h0 : W 0 γ M1) (hst : ∀ i γ' M', W i γ' M' → seqI M' d = some ds)
    (step : ∀ i x γ' M', W i γ' M' → ds[i]? = some x → g (.tup [.int (i : Int), x]) γ' M' fun γ2 M2 => b { Ed with nx := W (i + 1), ct := W (i + 1), bk := Ed.nx } γ2 M2) (hd : ∀ γ' M', W ds.length γ' M' → Ed.nx γ' M') : vFor (wEnum va) g b Ed γ M := by
  refine hva _ ?_
  show (match isTup d, seqI M1 d with | false, some ds => _ | _, _ => False)
  rw [ht, hs]
  refine ⟨W, h0, hst, fun i x γ' M' w h => ?_, fun γ' M' w => hd γ' M' (by rw [← enumF_len 0 ds]; exact w)⟩
  obtain ⟨y, h1, rfl⟩ := enumF_get 0 i ds x h
  rw [Nat.zero_add]
  exact step i y γ' M' w h1
theorem len_of {d : D} {ds : List D} {M : Mem} {R : DR} (hs : seqI M d = some ds) : oLen [d] M R = R (.int ds.length) M := by
  cases d with
  | str x => cases hs
  | _ => unfold oLen; simp only [hs]
theorem list_of {d : D} {ds : List D} {M : Mem} {R : DR} (hs : seqI M d = some ds) : oList [d] M R = R (.lst ds) M := by
  unfold oList; simp only [hs]
/-- a list, frozen or owned -/
def LsD (M : Mem) (d : D) (ds : List D) : Prop := d = .lst ds ∨ ∃ a, d = .own a ∧ M a = some (.lst ds)
theorem LsD.seq {M : Mem} {d : D} {ds : List D} (h : LsD M d ds) : isTup d = false ∧ seqI M d = some ds ∧ tyM M d = some .lst := by
  rcases h with rfl | ⟨a, rfl, h⟩
  · exact ⟨rfl, rfl, rfl⟩
  · exact ⟨rfl, seqI_own h, by rw [f_tmO, h]⟩
theorem LsD.set {M : Mem} {d : D} {ds : List D} {p : Addr} {m : MO} (h : LsD M d ds) (hp : M p = none) : LsD (mset M p m) d ds := by
  rcases h with rfl | ⟨a, rfl, h⟩
  · exact .inl rfl
  · refine .inr ⟨a, rfl, ?_⟩
    have ne : a ≠ p := fun z => by rw [z, hp] at h; cases h
    rw [mset_ne ne]; exact h
theorem eqG_lsD {f : Bool → Bool} {M : Mem} {R : DR} {d e : D} {ds : List D} (h1 : LsD M d ds) (h2 : LsD M e ds) (h : cmpD 64 (.lst ds) = true) (hR : R (.bl (f true)) M) : oEqG f d e M R := by
  obtain ⟨p, e0, s, r⟩ := shaped_of h
  have t : ∀ d, LsD M d ds → toPt M d = some p := fun d h => by
    rcases h with rfl | ⟨a, rfl, h⟩
    · exact toPt_pure e0
    · unfold toPt; simp only [h]; exact e0
  exact eqG_of (t d h1) (t e h2) s s (by rw [r]; exact hR)
/-! ### a comprehension as filter and map -/
theorem lc_mf {j : ItD} {g : DG} {t : DT} {e : DE} {vs : List Nat} {γ : Gm} {M : Mem} {R : DR} (c : D → Bool) (f : D → D) (hl : j.its.length < sizeLine) (hst : ∀ p acc, M p = none → j.st (mset M p (.lst acc))) (hp : ∀ d ∈ j.its, c d = true → pureD (f d) = true)
    (step : ∀ (i : Nat) (d : D) (p : Addr) (acc : List D) (P : DR) (Q : Mem → Prop), j.its[i]? = some d → M p = none → (c d = true → P (f d) (mset M p (.lst acc))) → (c d = false → Q (mset M p (.lst acc))) →
      g d (gwipe γ vs) (mset M p (.lst acc)) fun γ2 M2 => t γ2 M2 fun b M3 => (b = true → e γ2 M3 P) ∧ (b = false → Q M3))
    (hR : R (.lst ((j.its.filter c).map f)) M) :
    ∀ p, M p = none → ∃ W : Nat → List D → Mem → Prop, W 0 [] M ∧
      (∀ i acc M', W i acc M' → M' p = none ∧ acc.length < sizeLine ∧ j.st (mset M' p (.lst acc))) ∧
      (∀ i acc M' d, W i acc M' → j.its[i]? = some d → g d (gwipe γ vs) (mset M' p (.lst acc)) fun γ2 M2 => t γ2 M2 fun b M3 =>
        (b = true → e γ2 M3 fun y M4 => pureD y = true ∧ ∃ M5, M4 = mset M5 p (.lst acc) ∧ W (i + 1) (acc ++ [y]) M5) ∧ (b = false → ∃ M5, M3 = mset M5 p (.lst acc) ∧ W (i + 1) acc M5)) ∧
      (∀ acc M', W j.its.length acc M' → R (.lst acc) M') := by
  intro p hpn
  have tk : ∀ {i : Nat} {d : D}, j.its[i]? = some d → j.its.take (i + 1) = j.its.take i ++ [d] := fun h => by rw [List.take_succ, h]; rfl
  refine ⟨fun i acc M' => M' = M ∧ acc = (((j.its.take i).filter c).map f), ⟨rfl, rfl⟩, ?_, ?_, ?_⟩
  · rintro i acc M' ⟨rfl, rfl⟩
    refine ⟨hpn, ?_, hst p _ hpn⟩
    rw [List.length_map]
    refine Nat.lt_of_le_of_lt (List.length_filter_le _ _) ?_
    rw [List.length_take]
    exact Nat.lt_of_le_of_lt (Nat.min_le_right _ _) hl
  · rintro i acc M' d ⟨rfl, rfl⟩ hd
    refine step i d p _ _ _ hd hpn (fun h => ⟨hp d (List.mem_of_getElem? hd) h, _, rfl, rfl, ?_⟩) (fun h => ⟨_, rfl, rfl, ?_⟩)
    · rw [tk hd, List.filter_append, List.map_append]; simp [List.filter_cons, h]
    · rw [tk hd, List.filter_append, List.map_append]; simp [List.filter_cons, h]
  · rintro acc M' ⟨rfl, rfl⟩
    rw [List.take_length]; exact hR
section
variable {g : DG} {t : DT} {e ve : DE} {va : DA} {vs : List Nat} {γ : Gm} {M M1 : Mem} {R : DR} (c : D → Bool) (f : D → D)
theorem mf_list (ds : List D) (hve : ∀ F : DR, F (.lst ds) M1 → ve γ M F) (hl : ds.length < sizeLine) (hp : ∀ d ∈ ds, c d = true → pureD (f d) = true)
    (step : ∀ (i : Nat) (d : D) (p : Addr) (acc : List D) (P : DR) (Q : Mem → Prop), ds[i]? = some d → M1 p = none → (c d = true → P (f d) (mset M1 p (.lst acc))) → (c d = false → Q (mset M1 p (.lst acc))) →
      g d (gwipe γ vs) (mset M1 p (.lst acc)) fun γ2 M2 => t γ2 M2 fun b M3 => (b = true → e γ2 M3 P) ∧ (b = false → Q M3))
    (hR : R (.lst ((ds.filter c).map f)) M1) : vLc (wList ve) g t e vs γ M R :=
  hve _ (lc_mf (j := liD (.lst ds) ds) c f hl (fun _ _ _ => rfl) hp step hR)
theorem mf_own (a : Addr) (ds : List D) (hve : ∀ F : DR, F (.own a) M1 → ve γ M F) (ha : M1 a = some (.lst ds)) (hl : ds.length < sizeLine) (hp : ∀ d ∈ ds, c d = true → pureD (f d) = true)
    (step : ∀ (i : Nat) (d : D) (p : Addr) (acc : List D) (P : DR) (Q : Mem → Prop), ds[i]? = some d → M1 p = none → (c d = true → P (f d) (mset M1 p (.lst acc))) → (c d = false → Q (mset M1 p (.lst acc))) →
      g d (gwipe γ vs) (mset M1 p (.lst acc)) fun γ2 M2 => t γ2 M2 fun b M3 => (b = true → e γ2 M3 P) ∧ (b = false → Q M3))
    (hR : R (.lst ((ds.filter c).map f)) M1) : vLc (wList ve) g t e vs γ M R := by
  refine hve _ ?_
  show (match false, seqI M1 (.own a) with | false, some ds => _ | _, _ => False)
  rw [seqI_own ha]
  refine lc_mf (j := liD (.own a) ds) c f hl (fun p acc hp => ?_) hp step hR
  have ne : a ≠ p := fun z => by rw [z, hp] at ha; cases ha
  exact seqI_own (by rw [mset_ne ne]; exact ha)
theorem mf_tup (ds : List D) (hve : ∀ F : DR, F (.tup ds) M1 → ve γ M F) (hl : ds.length < sizeLine) (hp : ∀ d ∈ ds, c d = true → pureD (f d) = true)
    (step : ∀ (i : Nat) (d : D) (p : Addr) (acc : List D) (P : DR) (Q : Mem → Prop), ds[i]? = some d → M1 p = none → (c d = true → P (f d) (mset M1 p (.lst acc))) → (c d = false → Q (mset M1 p (.lst acc))) →
      g d (gwipe γ vs) (mset M1 p (.lst acc)) fun γ2 M2 => t γ2 M2 fun b M3 => (b = true → e γ2 M3 P) ∧ (b = false → Q M3))
    (hR : R (.lst ((ds.filter c).map f)) M1) : vLc (wTup ve) g t e vs γ M R :=
  hve _ (lc_mf (j := ⟨ds, fun _ => True⟩) c f hl (fun _ _ _ => trivial) hp step hR)
theorem mf_rg1 (k : Int) (hva : ∀ F : List D → Mem → Prop, F [.int k] M1 → va γ M F) (hk0 : -4611686018427387904 ≤ k) (hk1 : k < 4611686018427387904) (hl : k.toNat < sizeLine) (hp : ∀ d ∈ rngD 0 k.toNat, c d = true → pureD (f d) = true)
    (step : ∀ (i : Nat) (p : Addr) (acc : List D) (P : DR) (Q : Mem → Prop), i < k.toNat → M1 p = none → (c (.int i) = true → P (f (.int i)) (mset M1 p (.lst acc))) → (c (.int i) = false → Q (mset M1 p (.lst acc))) →
      g (.int (i : Int)) (gwipe γ vs) (mset M1 p (.lst acc)) fun γ2 M2 => t γ2 M2 fun b M3 => (b = true → e γ2 M3 P) ∧ (b = false → Q M3))
    (hR : R (.lst (((rngD 0 k.toNat).filter c).map f)) M1) : vLc (wRng1 va) g t e vs γ M R :=
  hva _ ⟨hk0, hk1, lc_mf (j := ⟨rngD 0 k.toNat, fun _ => True⟩) c f (by show (rngD 0 k.toNat).length < _; rw [rngD_len]; exact hl) (fun _ _ _ => trivial) hp (fun i d p acc P Q hd hp' h1 h2 => by
    obtain ⟨h3, rfl⟩ := (rngD_get _ _ _ _).mp hd
    rw [Int.zero_add] at h1 h2 ⊢
    exact step i p acc P Q h3 hp' h1 h2) hR⟩
theorem mf_rg2 (lo hi : Int) (hva : ∀ F : List D → Mem → Prop, F [.int lo, .int hi] M1 → va γ M F) (hl : (hi - lo).toNat < sizeLine) (hp : ∀ d ∈ rngD lo (hi - lo).toNat, c d = true → pureD (f d) = true)
    (step : ∀ (i : Nat) (p : Addr) (acc : List D) (P : DR) (Q : Mem → Prop), i < (hi - lo).toNat → M1 p = none → (c (.int (lo + i)) = true → P (f (.int (lo + i))) (mset M1 p (.lst acc))) → (c (.int (lo + i)) = false → Q (mset M1 p (.lst acc))) →
      g (.int (lo + (i : Int))) (gwipe γ vs) (mset M1 p (.lst acc)) fun γ2 M2 => t γ2 M2 fun b M3 => (b = true → e γ2 M3 P) ∧ (b = false → Q M3))
    (hR : R (.lst (((rngD lo (hi - lo).toNat).filter c).map f)) M1) : vLc (wRng2 va) g t e vs γ M R :=
  hva _ (lc_mf (j := ⟨rngD lo (hi - lo).toNat, fun _ => True⟩) c f (by show (rngD lo _).length < _; rw [rngD_len]; exact hl) (fun _ _ _ => trivial) hp (fun i d p acc P Q hd hp' h1 h2 => by
    obtain ⟨h3, rfl⟩ := (rngD_get _ _ _ _).mp hd
    exact step i p acc P Q h3 hp' h1 h2) hR)
end
/-! ### an owned list against [] -/
theorem eqG_none {f : Bool → Bool} {M : Mem} {R : DR} {a : Addr} {ds : List D} (ha : M a = some (.lst ds)) (h : cmpD 64 (.lst ds) = true) (h0 : ds = [] → R (.bl (f true)) M) (h1 : ds ≠ [] → R (.bl (f false)) M) : oEqG f (.own a) (.lst []) M R := by
  obtain ⟨p, e, s, r⟩ := shaped_of h
  have t : toPt M (.own a) = some p := by unfold toPt; simp only [ha]; exact e
  refine eqG_of (p := p) (q := .list []) t rfl s (by decide) ?_
  cases ds with
  | nil => cases e; exact h0 rfl
  | cons d ds =>
    unfold toP at e
    cases q : toPL (d :: ds) with
    | none => rw [q] at e; cases e
    | some ps =>
      rw [q] at e
      cases e
      unfold toPL at q
      split at q
      · cases q; exact h1 (by simp)
      · cases q
end Dl
namespace Dl
open PySem L2
/-! ### names from a list -/
section
variable {X : Cx} {C : Addr} {e : Expr} {pos : Pos}
def dLst (n : Nat) (gs : DGs) : DG := fun d γ M R => match d with
  | .lst ds => ds.length = n ∧ gs ds γ M R
  | _ => False
theorem e_dLst (n : Nat) (gs : DGs) (d : D) (γ : Gm) (M : Mem) (R : Gm → Mem → Prop) : dLst n gs d γ M R = (match d with
  | .lst ds => ds.length = n ∧ gs ds γ M R
  | _ => False) := propext Iff.rfl
theorem qg_lst {es : List Expr} {k : Nat} {gs : DGs} {n : Nat} (h : QGs X C es gs) (hc : X.calm = true := by rfl) (hn : (assignEach es X.env).length = n := by rfl) (hst : (assignEach es X.env).findIdx? (·.1) = none := by rfl) : QG X C (.Tuple es k pos) (dLst n gs) := by
  obtain ⟨t, p, s⟩ := h.ex
  refine ⟨_, pg_unl hc p hn hst, fun d γ M R σ H x Q r i1 h k => ?_⟩
  cases d with
  | lst ds =>
    have i2 := i1
    unfold Is at i2
    obtain ⟨a, xs, e1, m, ha, hl⟩ := i2
    exact ⟨a, xs, e1, SqL.of ha, by rw [← hl.len]; exact h.1, s ds γ M R σ H xs Q r hl h.2 k⟩
  | _ => exact False.elim h
/-! ### a list backwards -/
theorem IsL.reverse {G : Gx} {M : Mem} {H : Hp} : ∀ {ds : List D} {vs : List V}, IsL G M H ds vs → IsL G M H ds.reverse vs.reverse
  | [], [], h => h
  | [], _ :: _, h => by unfold IsL at h; exact h.elim
  | _ :: _, [], h => by unfold IsL at h; exact h.elim
  | d :: ds, v :: vs, h => by
    unfold IsL at h
    rw [List.reverse_cons, List.reverse_cons]
    exact (IsL.reverse h.2).append (IsL.cons h.1 IsL.nil)
def vRev (o : DE) : DE := fun γ M R => o γ M fun od M1 => match od with
  | .lst ds => R (.lst ds.reverse) M1
  | .own a => (match M1 a with
    | some (.lst ds) => R (.lst ds.reverse) M1
    | _ => False)
  | _ => False
theorem e_vRev (o : DE) (γ : Gm) (M : Mem) (R : DR) : vRev o γ M R = (o γ M fun od M1 => match od with
  | .lst ds => R (.lst ds.reverse) M1
  | .own a => (match M1 a with
    | some (.lst ds) => R (.lst ds.reverse) M1
    | _ => False)
  | _ => False) := propext Iff.rfl
theorem q_rev {vo : DE} {k : Nat} {p1 p2 p3 : Pos} (ho : QE X C e vo) : QE X C (.Subscript e (.Slice none none (some (.UnaryOp .USub (.Constant (.int 1) k p1) p2)) p3) pos) (vRev vo) := by
  obtain ⟨to, po, so⟩ := ho.ex
  refine ⟨_, pe_revL po, fun γ M R σ H Q r h k => so γ M _ σ H _ r h fun od M1 x H1 o1 i1 e1 h1 => ?_⟩
  cases od with
  | lst ds =>
    have j1 := i1
    unfold Is at j1
    obtain ⟨a, xs, ex, m, ha, hl⟩ := j1
    exact ⟨a, xs, ex, SqL.of ha, fun p hp => k _ M1 _ _ (o1.new hp) (new_lst o1 hp hl.reverse) (e1.trans (Ext.new hp)) h1⟩
  | own a =>
    have j1 := i1
    unfold Is at j1
    have hq : lstAt M1 a = true := by
      simp only at h1
      split at h1
      · rename_i q; exact lstAt_of q
      · exact h1.elim
    obtain ⟨ds, xs, q, pu, ha, hl⟩ := own_list o1 hq
    rw [j1.1]
    simp only [q] at h1
    exact ⟨a, xs, rfl, SqL.of ha, fun p hp => k _ M1 _ _ (o1.new hp) (new_lst o1 hp hl.reverse) (e1.trans (Ext.new hp)) h1⟩
  | _ => exact False.elim h1
end
end Dl
namespace Dl
open PySem L2
theorem vlc_listM {ve : DE} {g : DG} {t : DT} {e : DE} {vs : List Nat} {γ : Gm} {M : Mem} {a : Addr} {m : MO} {R : DR} (ds : List D) (hve : ∀ F : DR, F (.lst ds) (mset M a m) → ve γ (mset M a m) F)
    (Pm : Nat → MO → Prop) (Pa : Nat → List D → Prop) (h0 : Pm 0 m) (a0 : Pa 0 []) (hl : ∀ i acc, Pa i acc → acc.length < sizeLine)
    (step : ∀ i acc m' d p, p ≠ a → Pm i m' → Pa i acc → ds[i]? = some d → g d (gwipe γ vs) (mset (mset M p (.lst acc)) a m') fun γ2 M2 => t γ2 M2 fun b M3 =>
      (b = true → e γ2 M3 fun y M4 => pureD y = true ∧ ∃ M5, M4 = mset M5 p (.lst acc) ∧ ∃ m2, M5 = mset M a m2 ∧ Pm (i + 1) m2 ∧ Pa (i + 1) (acc ++ [y])) ∧ (b = false → ∃ M5, M3 = mset M5 p (.lst acc) ∧ ∃ m2, M5 = mset M a m2 ∧ Pm (i + 1) m2 ∧ Pa (i + 1) acc))
    (hR : ∀ acc m', Pm ds.length m' → Pa ds.length acc → R (.lst acc) (mset M a m')) : vLc (wList ve) g t e vs γ (mset M a m) R :=
  hve _ (lc_state (j := liD (.lst ds) ds) Pm Pa h0 a0 hl step hR (fun _ => rfl))
theorem at_mem {ds : List D} {i : Int} (h0 : 0 ≤ i) (h1 : i < ds.length) : ∃ d, atI ds i = some d ∧ d ∈ ds := by
  unfold atI ixN
  rw [if_pos h0, if_pos h1]
  refine ⟨ds[i.toNat]'(by omega), ?_, List.getElem_mem _⟩
  show ds[i.toNat]? = _
  exact List.getElem?_eq_getElem (by omega)
end Dl
/-! ### sorted(set(xs)), xs a list of ints: the kit has set(t) of a tuple alone; its lines turned to a list -/
namespace L2
open PySem PySem.Spec PyProof.Rows
section
variable {P : Program} {w : World} {A : Around} {E : Value → Shared → Prop} {s : Shared}
set_option maxRecDepth 100000 in
set_option maxHeartbeats 3200000 in
theorem setOfListI {l : Addr} {items : Array Value} (ns : List Int) {Q : Value → Shared → Prop} (hh : A.handled = none) (hl : s.heap.IsList l items) (hit : IntsAre items.toList ns) (hb : ns.length + 1 < scanBound)
    (h : ∀ (h' : Heap) (tk c : Nat), SetR w h' s.heap.objs.size (fun j => decide (j ∈ ns)) c → c ≤ ns.length → (∀ b o, s.heap.get? b = some o → h'.get? b = some o) → Q (.ref s.heap.objs.size) { s with heap := h', toks := tk }) :
    wpAny (model P w) A (call (.type "set") [.ref l]) Q E s := by
  have hisz : items.size = ns.length := by
    have q := IntsAre.length hit
    rw [Array.length_toList] at q
    exact q
  obtain ⟨c, tl, hmro⟩ := F.called_set.mro
  have hmade := F.called_set.made
  have hsub := F.called_set.sub
  refine wpAny_call (codeAny_of_tree ?_)
  show wpAny _ _ (callAny (.type "set") _) _ _ _
  refine wpAny_pure ⟨Code.quiet_builtin _ (by decide +kernel), codeAny_builtin F.entry_type_call ?_⟩
  rw [Around.under_plain (weight_type_call_type "set" [.ref l] []) rfl]
  have h1 := F.called_set.notType
  have h2 := F.called_set.canCreate
  have hct := F.typeCall_set_1 (.ref l)
  repeat (any_goals (first | assumption | wp_step))
  refine codeAny_mono (code_set_led1 (.ref l) (E := E) (Q₁ := fun obj s₁ => obj = .ref s.heap.objs.size ∧ s₁ = { s with heap := s.heap.push { cls := .type "set", dict := none, data := .set #[] 0 (.fresh 0 0 (!w.params.followText "set-order")) } }) ⟨rfl, rfl⟩) fun r s₁ hr => ?_
  cases r with
  | error e => exact hr
  | ok fl =>
    cases fl with
    | ret obj =>
      obtain ⟨rfl, rfl⟩ := hr
      have hS : (s.heap.push { cls := .type "set", dict := none, data := .set #[] 0 (.fresh 0 0 (!w.params.followText "set-order")) }).get? s.heap.objs.size = some { cls := .type "set", dict := none, data := .set #[] 0 (.fresh 0 0 (!w.params.followText "set-order")) } := Heap.get?_push_size _ rfl
      have hT : Shared.TypeIs { s with heap := s.heap.push { cls := .type "set", dict := none, data := .set #[] 0 (.fresh 0 0 (!w.params.followText "set-order")) } } (.ref s.heap.objs.size) "set" := ⟨_, hS, rfl⟩
      have hli := F.called_set.init.lookup
      have hbi := F.called_set.init.bind (.ref s.heap.objs.size)
      repeat (any_goals (first | assumption | wp_step))
      refine codeAny_mono (codeAny_call_builtin (R := wants (fun r s₂ => r = .none ∧ ∃ h' tk c, s₂ = { s with heap := h', toks := tk } ∧ SetR w h' s.heap.objs.size (fun j => decide (j ∈ ns)) c ∧ c ≤ ns.length ∧
          (∀ b o, s.heap.get? b = some o → h'.get? b = some o)) E) F.called_set.init.plain F.entry_set_init (check_set_init_1 hT ?_)) fun r₂ s₂ hr₂ => ?_
      · obtain ⟨ol, hol, hcl, nl, hdl⟩ := hl
        obtain ⟨ocls, odict, odata, oslots⟩ := ol
        simp only at hcl hdl
        subst hcl; subst hdl
        have hol' : (s.heap.push { cls := .type "set", dict := none, data := .set #[] 0 (.fresh 0 0 (!w.params.followText "set-order")) }).get? l = some { cls := .type "list", dict := odict, data := .seq items nl, slots := oslots } := Heap.get?_push_of_some _ hol
        have hsls := F.sub_list_set
        have hslf := F.sub_list_frozenset
        have hne : (Value.type "list" == Value.type "dict") = false := by decide
        have hl1 : (s.heap.push { cls := .type "set", dict := none, data := .set #[] 0 (.fresh 0 0 (!w.params.followText "set-order")) }).IsList l items := ⟨_, hol', rfl, nl, rfl⟩
        unfold Builtin.«set.__init__» noKeywords Builtin.Frozenset.updateFrom
        generalize hPI : pyIter = PI
        wp_walk
        subst hPI
        refine wpAny_pyIter_list hl1 ?_
        refine wpAny_bind (wpAny_runValue ?_)
        have hlS : l < s.heap.objs.size := Heap.lt_size hol
        have hh3 : A.in1.in1.in1.handled = none := by simp [hh]
        have hneI : l ≠ (s.heap.push { cls := .type "set", dict := none, data := .set #[] 0 (.fresh 0 0 (!w.params.followText "set-order")) }).objs.size := by
          rw [Heap.size_push]; exact Nat.ne_of_lt (Nat.lt_succ_of_lt hlS)
        have hSf : s.heap.objs.size ∉ [(s.heap.push { cls := .type "set", dict := none, data := .set #[] 0 (.fresh 0 0 (!w.params.followText "set-order")) }).objs.size, l] := by
          rw [Heap.size_push]; simp only [List.mem_cons, List.mem_singleton, List.not_mem_nil, or_false, not_or]
          exact ⟨Nat.ne_of_lt (Nat.lt_succ_self _), Nat.ne_of_gt hlS⟩
        have hval : ∀ (i : Nat) (v : Value), items[i]? = some v → ∃ k t, ns[i]? = some k ∧ v = .int k t := fun i v hv => by
          have hi : i < ns.length := by rw [← hisz]; exact (Array.getElem?_eq_some_iff.mp hv).1
          obtain ⟨t, e⟩ := PyProof.Rows.IntsAre.int_at hit i v (by rw [Array.getElem?_toList]; exact hv)
          refine ⟨ns[i], t, List.getElem?_eq_getElem hi, ?_⟩
          rw [e, List.getD_eq_getElem?_getD, List.getElem?_eq_getElem hi] <;> rfl
        refine set_update_ints ((Walks.list hh3 _ l hneI items).toS) s.heap.objs.size
          hSf ns hisz hb hval (items.size - 0) 0 _ (by omega) (Nat.zero_le _)
          ⟨⟨_, Heap.get?_push_size _ rfl, rfl, rfl⟩, (hl1.push _)⟩ ?hS0 ?hR
        case hS0 =>
          exact ⟨0, Nat.le_refl 0, setR_new_at (Heap.get?_push_of_some _ hS)⟩
        case hR =>
          intro s' c' hm hc' hS'
          obtain ⟨h', g2, d', tk', os'⟩ := s'
          have eg : g2 = s.gens := hm.gens
          have ed : d' = s.drawn := hm.drawn
          have eo : os' = s.os := hm.os
          subst eg; subst ed; subst eo
          show wpAny _ _ _ _ _ _
          refine wpAny_pure ?_
          show wpAny _ _ (ret Value.none) _ _ _
          rw [hisz] at hc'
          refine wpAny_pure ⟨rfl, h', tk', c', rfl, hS', hc', fun b o e => ?_⟩
          have hb0 : b < s.heap.objs.size := Heap.lt_size e
          have hb1 : b ≠ s.heap.objs.size := Nat.ne_of_lt hb0
          have hb2 : b ≠ (s.heap.push { cls := .type "set", dict := none, data := .set #[] 0 (.fresh 0 0 (!w.params.followText "set-order")) }).objs.size := by
            rw [Heap.size_push]; exact Nat.ne_of_lt (Nat.lt_succ_of_lt hb0)
          exact hm.heap b o (by simp only [List.mem_cons, List.mem_singleton, List.not_mem_nil, or_false, not_or]; exact ⟨hb1, hb2⟩) (Heap.get?_push_of_some _ (Heap.get?_push_of_some _ e))
      · cases r₂ with
        | error e => exact hr₂
        | ok fl₂ =>
          cases fl₂ with
          | ret r =>
            obtain ⟨rfl, h', tk, c', rfl, hS', hc', hk'⟩ := hr₂
            repeat (any_goals (first | assumption | wp_step))
            exact h _ _ _ hS' hc' hk'
          | _ => exact hr₂.elim
    | _ => exact hr.elim
end
section
variable {X : Cx}
def rSetI (K : PySem.W.Frag) (w : World) : List V → Hp → VK → Prop := fun vs H Q => ∃ (l : Addr) (ns : List Int), vs = [V.ref l] ∧ SqL K H l (ns.map V.int) ∧ ns.length < 64 ∧ ∀ p c, H p = none → c ≤ ns.length → Q (.ref p) (upd H p (SetO w p (fun j => decide (j ∈ ns)) c))
theorem cr_setI (hc : X.calm = true) : CallR X (.type "set") (rSetI X.K X.w) := by
  intro pins s σ H vs us Q I r h
  obtain ⟨l, ns, rfl, hl, hf, q⟩ := h
  rw [Vals.ref1 r]
  obtain ⟨its, rv, pl, hz⟩ := I.list hl
  have hi : IntsAre its.toArray.toList ns := ints_of_vals rv
  refine setOfListI (P := X.prog) (w := X.w) ns (I.ok.hd hc) pl.isList hi (by unfold scanBound; omega) fun h' tk c R hcn k => ?_
  exact ⟨.ref s.heap.objs.size, _, I.laid (t' := tk) k (Nat.le_refl _) (setO_new R), rfl, q _ c (I.hok.fresh (Nat.le_refl _)) hcn⟩
end
end L2
namespace Dl
open PySem L2
section
variable {X : Cx} {C : Addr} {e : Expr} {pos p1 p2 pos2 : Pos}
def vSortSet (o : DE) : DE := fun γ M R => o γ M fun d M1 => match intsOf M1 d with
  | some ns => ns.length < 64 ∧ ∀ ns' : List Int, ns'.Pairwise (· < ·) → (∀ k : Int, k ∈ ns' ↔ k ∈ ns) → R (.lst (ns'.map .int)) M1
  | none => False
theorem e_vSortSet (o : DE) (γ : Gm) (M : Mem) (R : DR) : vSortSet o γ M R = (o γ M fun d M1 => match intsOf M1 d with
  | some ns => ns.length < 64 ∧ ∀ ns' : List Int, ns'.Pairwise (· < ·) → (∀ k : Int, k ∈ ns' ↔ k ∈ ns) → R (.lst (ns'.map .int)) M1
  | none => False) := propext Iff.rfl
theorem bb_set : bootBuiltins "set" = some (.type "set") := by decide +kernel
theorem q_sortset {vo : DE} (ho : QE X C e vo) (hg1 : Gl X "sorted") (hm1 : X.mg "sorted" = none) (hg2 : Gl X "set") (hm2 : X.mg "set" = none) (hc : X.calm = true := by rfl) (hs1 : starEach [e] X.env = [(false, eval e X.env)] := by rfl)
    (hs2 : starEach [.Call (.Name "set" p2) [e] [] pos2] X.env = [(false, eval (.Call (.Name "set" p2) [e] [] pos2) X.env)] := by rfl) :
    QE X C (.Call (.Name "sorted" p1) [.Call (.Name "set" p2) [e] [] pos2] [] pos) (vSortSet vo) := by
  obtain ⟨to, po, so⟩ := ho.ex
  have pin : PE X (.Call (.Name "set" p2) [e] [] pos2) (tCB (rSetI X.K X.w) (tCons to tNil)) := pe_callTy (cr_setI hc) hg2 hm2 bb_set (pa_cons po pa_nil hs1) (by decide) (by decide) hs1 rfl
  have pout : PE X (.Call (.Name "sorted" p1) [.Call (.Name "set" p2) [e] [] pos2] [] pos) (tCB (rSortedSet X.w) (tCons (tCB (rSetI X.K X.w) (tCons to tNil)) tNil)) := pe_callB (cr_sortedSet hc) hg1 hm1 bb_sorted (pa_cons pin pa_nil hs2) (by decide) (by decide) hs2 rfl
  refine ⟨_, pout, fun γ M R σ H Q r h k => so γ M _ σ H _ r h fun d M1 x H1 o1 i1 e1 h1 => ?_⟩
  split at h1
  · rename_i ns en
    obtain ⟨a, rfl, sq⟩ := ints_at o1 i1 en
    refine ⟨a, ns, rfl, sq, h1.1, fun p c hp hcn => ?_⟩
    refine ⟨p, _, c, rfl, upd_same, by have := h1.1; omega, fun ns' p' pw hm _ hp' => ?_⟩
    have o2 : Own ⟨X.K, C⟩ M1 (upd H1 p (SetO X.w p (fun j => decide (j ∈ ns)) c)) := o1.new hp
    exact k _ M1 _ _ (o2.new hp') (new_lst o2 hp' (isL_ints ns')) ((e1.trans (Ext.new hp)).trans (Ext.new hp')) (h1.2 ns' pw fun k => by rw [hm k, decide_eq_true_eq])
  · exact h1.elim
end
end Dl
/-! ### list(range(a, b)) with ends of any size: the kit has small ends alone; its lines turned to the long iterator -/
namespace PySem
section
variable {prog : Program} {w : World} {A : Around} {E : Value → Shared → Prop} {s : Shared}
set_option maxRecDepth 100000 in
theorem extendLong {R : Result → Shared → Prop} {r : Addr} {a b c : Int} {t u v : Tok} {n : Nat} (hh : A.handled = none) (hr : IsRange s.heap r a b c t u v) (hbig : Builtin.Range.small a b c = false)
    (hn : Builtin.Range.rangeSize a b c = n) (hlen : n ≤ 2 ^ 24) (S : Addr) (res : Value) (c₀ : Nat) (hS : s.heap.get? S = some { cls := .type "list", data := .seq #[] c₀ })
    (hR : ∀ h' tk acc' c', (∀ b o, b ≠ S → s.heap.get? b = some o → h'.get? b = some o) → h'.get? S = some { cls := .type "list", dict := none, data := .seq acc' c', slots := #[] } →
      ItemsOf (fun i v => ∃ t, v = .int (a + i * c) t) acc' n → R (.ok (.ret res)) { s with heap := h', toks := tk }) :
    wpAny (model prog w) A.in1 (Builtin.List.listExtendWith (.ref S) (.ref r) res)
      (fun fin s' => match fin with | .done f => R (.ok f) s' | .again c' => c'.quiet = true ∧ codeAny (model prog w) A c' R s') (fun e s' => R (.error e) s') s := by
  have hSr : S ≠ r := fun e => by rw [e, hr] at hS; simp at hS
  have hSlt : S < s.heap.objs.size := Heap.lt_size hS
  have hSI : S ≠ s.heap.objs.size := Nat.ne_of_lt hSlt
  have hSf : S ∉ [s.heap.objs.size] := fun hm => hSI (List.mem_singleton.mp hm)
  have W := (Walks.longrange (prog := prog) (w := w) (A := A.in1) hh s.heap.objs.size a c n).toS
  have key : ∀ (h : Heap) (c₁ tk : Nat), IsLongIter h s.heap.objs.size (a + ((0 : Nat) : Int) * c) ((n : Int) - ((0 : Nat) : Int)) c → (∀ b o, b ≠ S → s.heap.get? b = some o → h.get? b = some o) →
      h.get? S = some { cls := .type "list", data := .seq #[] c₁ } → codeAny (model prog w) A (.builtin "list.extend.loop" ⟨[.ref S, .ref s.heap.objs.size, res], []⟩) R { s with heap := h, toks := tk } := by
    intro h c₁ tk hit hk hS₁
    refine codeAny_extend_loopS W (by rw [sizeLine_eq]; omega) S hSf res n 0 _ #[] c₁ rfl (Nat.zero_le _) hit hS₁ (ItemsOf.nil _) fun s' acc' c' hm hS' hacc => ?_
    rw [Moved.eq_with hm]
    refine hR s'.heap s'.toks acc' c' (fun b o hb e => hm.heap b o (fun hmem => ?_) (hk b o hb e)) hS' hacc
    rcases List.mem_cons.mp hmem with e' | hmem
    · exact hb e'
    · exact absurd (Heap.lt_size e) (by rw [List.mem_singleton.mp hmem]; exact Nat.lt_irrefl _)
  unfold Builtin.List.listExtendWith
  refine wpAny_bind (wpAny_typeOf (T := "range") ⟨_, hr, rfl⟩ ?_)
  have h1 : Builtin.List.listSameRef (.ref S) (.ref r) = false := by simp [Builtin.List.listSameRef, hSr]
  have h2 : (Value.type "range" == Value.type "list") = false := by decide
  have h3 : (Value.type "range" == Value.type "tuple") = false := by decide
  simp only [h1, h2, h3, Bool.or_false, Bool.false_eq_true, if_false]
  refine wpAny_bind (wpAny_pyIter_longrange hr hbig ?_)
  refine wpAny_bind (wpAny_holding (wpAny_hint_range (n := n) (Heap.get?_push_of_some _ hr) hn hlen ?_))
  have hit₁ : IsLongIter (s.heap.push { cls := .type "longrange_iterator", data := .fields #[rawInt a, rawInt (Builtin.Range.rangeSize a b c), rawInt c] }) s.heap.objs.size (a + ((0 : Nat) : Int) * c) ((n : Int) - ((0 : Nat) : Int)) c := by
    show IsLongIter _ _ _ _ _; rw [hn]; simpa using Heap.get?_push_size _ rfl
  have hS₁ := Heap.get?_push_of_some { cls := .type "longrange_iterator", data := .fields #[rawInt a, rawInt (Builtin.Range.rangeSize a b c), rawInt c] } hS
  refine wpAny_ite_split (fun _ => ?_) (fun _ => wpAny_pure ⟨plainId_quiet F.plain_extend_loop _, key _ c₀ _ hit₁ (fun b o _ e => Heap.get?_push_of_some _ e) hS₁⟩)
  refine wpAny_bind (wpAny_rule ?_)
  refine wpAny_bind ?_
  show wpAny _ _ (updateSeq S (·.push .none) >>= fun _ => updateSeq S (·.pop)) _ _ _
  refine wpAny_bind (wpAny_updateSeq hS₁ rfl ?_)
  have hS₂ := Heap.get?_update_self (Obj.mapSeq (·.push Value.none)) hS₁ rfl
  refine wpAny_updateSeq (hz := by seq_fits) hS₂ rfl ?_
  have hS₃ := Heap.get?_update_self (Obj.mapSeq (·.pop)) hS₂ rfl
  refine wpAny_pure ⟨plainId_quiet F.plain_extend_loop _, key _ _ _ ?_ (fun b o hb e => ?_) hS₃⟩
  · exact (Heap.get?_update_other _ _ hSI).trans ((Heap.get?_update_other _ _ hSI).trans hit₁)
  · exact (Heap.get?_update_other _ _ (Ne.symm hb)).trans ((Heap.get?_update_other _ _ (Ne.symm hb)).trans (Heap.get?_push_of_some _ e))
set_option maxRecDepth 100000 in
theorem listInitLong {R : Result → Shared → Prop} {r : Addr} {a b c : Int} {t u v : Tok} {n : Nat} (hh : A.handled = none) (hr : IsRange s.heap r a b c t u v) (hbig : Builtin.Range.small a b c = false)
    (hn : Builtin.Range.rangeSize a b c = n) (hlen : n ≤ 2 ^ 24) (S : Addr) (hS : s.heap.get? S = some { cls := .type "list", data := .seq #[] })
    (hR : ∀ h' tk acc' c', (∀ b o, b ≠ S → s.heap.get? b = some o → h'.get? b = some o) → h'.get? S = some { cls := .type "list", dict := none, data := .seq acc' c', slots := #[] } →
      ItemsOf (fun i v => ∃ t, v = .int (a + i * c) t) acc' n → R (.ok (.ret .none)) { s with heap := h', toks := tk }) :
    wpAny (model prog w) A.in1 (Builtin.«list.__init__» ⟨[.ref S, .ref r], []⟩)
      (fun fin s' => match fin with | .done f => R (.ok f) s' | .again c' => c'.quiet = true ∧ codeAny (model prog w) A c' R s') (fun e s' => R (.error e) s') s := by
  have hSr : S ≠ r := fun e => by rw [e, hr] at hS; simp at hS
  show wpAny _ _ (do let old ← Builtin.List.listItems (.ref S); Builtin.List.listUpdate (.ref S) (fun _ => #[]); letGo old.toList.reverse; Builtin.List.listExtendWith (.ref S) (.ref r) .none) _ _ s
  refine wpAny_bind ?_
  unfold Builtin.List.listItems
  refine wpAny_bind (wpAny_seqItems hS rfl (wpAny_pure ?_))
  show wpAny _ _ (updateSeq S (fun _ => #[]) >>= fun _ => letGo (#[] : Array Value).toList.reverse >>= fun _ => Builtin.List.listExtendWith (.ref S) (.ref r) .none) _ _ s
  refine wpAny_bind (wpAny_updateSeq hS rfl ?_)
  have hS₂ := Heap.get?_update_self (Obj.mapSeq (fun _ => (#[] : Array Value))) hS rfl
  have oth : ∀ b o, b ≠ S → s.heap.get? b = some o → (s.heap.update S (Obj.mapSeq (fun _ => (#[] : Array Value)))).get? b = some o :=
    fun b o hb e => (Heap.get?_update_other _ _ (Ne.symm hb)).trans e
  refine wpAny_bind (wpAny_letGo ?_)
  refine extendLong hh (oth r _ (Ne.symm hSr) hr) hbig hn hlen S .none _ hS₂ fun h' tk acc' c' hk hS' hacc => ?_
  exact hR h' tk acc' c' (fun b o hb e => hk b o hb (oth b o hb e)) hS' hacc
set_option maxRecDepth 100000 in
theorem callListLong {Q : Value → Shared → Prop} {r : Addr} {a b c : Int} {t u v : Tok} {n : Nat} (hh : A.handled = none) (hr : IsRange s.heap r a b c t u v) (hbig : Builtin.Range.small a b c = false)
    (hn : Builtin.Range.rangeSize a b c = n) (hlen : n ≤ 2 ^ 24)
    (hQ : ∀ h' tk acc' c', (∀ b o, s.heap.get? b = some o → h'.get? b = some o) →
      h'.get? s.heap.objs.size = some { cls := .type "list", dict := none, data := .seq acc' c', slots := #[] } → ItemsOf (fun i v => ∃ t, v = .int (a + i * c) t) acc' n → Q (.ref s.heap.objs.size) { s with heap := h', toks := tk }) :
    wpAny (model prog w) A (call (.type "list") [.ref r]) Q E s := by
  refine callType_codes (Q₁ := fun obj s₁ => obj = .ref s.heap.objs.size ∧ s₁ = { s with heap := s.heap.push { cls := .type "list", data := .seq #[] } }) F.called_list (F.typeCall_list_1 _) F.entry_list_init
    (code_list_new _ ⟨rfl, rfl⟩) fun obj s₁ h₁ => ?_
  obtain ⟨rfl, rfl⟩ := h₁
  have hS : (s.heap.push { cls := .type "list", data := .seq #[] }).get? s.heap.objs.size = some { cls := .type "list", data := .seq #[] } := Heap.get?_push_size _ rfl
  refine ⟨⟨_, hS, rfl⟩, F.args_list_init_2 _ _, listInitLong (A := A.in1) hh (Heap.get?_push_of_some _ hr) hbig hn hlen _ hS fun h' tk acc' c' hk hS' hacc => ?_⟩
  exact ⟨rfl, hQ h' tk acc' c' (fun b o e => hk b o (Nat.ne_of_lt (Heap.lt_size e)) (Heap.get?_push_of_some _ e)) hS' hacc⟩
end
end PySem
namespace L2
open PySem PySem.Spec PyProof.Rows
section
variable {X : Cx} {e : Expr}
def tLstAny (te : St → Hp → (Int → Int → Hp → Prop) → Prop) : TE := fun σ H Q => te σ H fun a b H1 => (b - a).toNat ≤ 2 ^ 24 ∧ ∀ q, H1 q = none → Q (.ref q) (upd H1 q (.lst (rgV a b)))
theorem pe_listAny {p pos : Pos} {te : St → Hp → (Int → Int → Hp → Prop) → Prop} (hc : X.calm = true) (hg : Gl X "list") (hm : X.mg "list" = none) (he : PRg X e te) (na : starEach [e] X.env = (false, eval e X.env) :: starEach [] X.env := by rfl) : PE X (.Call (.Name "list" p) [e] [] pos) (tLstAny te) := by
  refine ⟨fun pins s σ H Q I h => ?_⟩
  refine Call_ (ld_blt I hg hm boot_list (PyProof.Rows.callWith_type1 (args_cons (thn (he pins s σ H _ I h) fun x s1 ⟨r, a, b, t, u, v, H1, ex, hr, I1, b5, q⟩ => args_nil ?_) na) na))
  subst ex
  have fin : ∀ h' tk (acc : Array Value) c', (∀ b o, s1.heap.get? b = some o → h'.get? b = some o) → h'.get? s1.heap.objs.size = some { cls := .type "list", dict := none, data := .seq acc c', slots := #[] } → ItemsOf (fun i v => ∃ t, v = .int (a + i * 1) t) acc (b - a).toNat →
      ∃ (v : V) (H' : Hp), Inv X pins σ H' { s1 with heap := h', toks := tk } ∧ RelV v (.ref s1.heap.objs.size) ∧ Q v H' := fun h' tk acc c' hk e' hi => by
    refine ⟨.ref s1.heap.objs.size, upd H1 s1.heap.objs.size (.lst (rgV a b)), I1.laid hk (Nat.le_refl _) (show ObjOk X.prog X.w _ _ _ (.lst (rgV a b)) from ⟨?_, acc.toList, c', vals_rg hi, ?_⟩), rfl, q _ (I1.hok.fresh (Nat.le_refl _))⟩
    · rw [rgV_length, sizeLine_eq]; omega
    · rw [Array.toArray_toList]; exact e'
  cases sm : Builtin.Range.small a b 1 with
  | true => exact call_list_range (n := (b - a).toNat) (I1.ok.hd hc) hr sm (rangeSize_nat a b) b5 fin
  | false => exact callListLong (n := (b - a).toNat) (I1.ok.hd hc) hr sm (rangeSize_nat a b) b5 fin
end
end L2
namespace Dl
open PySem L2
section
variable {X : Cx} {C : Addr} {e e2 : Expr} {ve vb : DE} {pos : Pos}
def vLRgA (a b : DE) : DE := fun γ M R => a γ M fun d M1 => b γ M1 fun f M2 => match d, f with
  | .int i, .int j => (j - i).toNat ≤ 2 ^ 24 ∧ R (.lst (rngD i (j - i).toNat)) M2
  | _, _ => False
theorem e_vLRgA (a b : DE) (γ : Gm) (M : Mem) (R : DR) : vLRgA a b γ M R = (a γ M fun d M1 => b γ M1 fun f M2 => match d, f with
  | .int i, .int j => (j - i).toNat ≤ 2 ^ 24 ∧ R (.lst (rngD i (j - i).toNat)) M2
  | _, _ => False) := propext Iff.rfl
theorem q_lrg2b {p q p2 : Pos} (hm : X.mg "list" = none) (hm2 : X.mg "range" = none) (he : QE X C e ve) (hb : QE X C e2 vb) (hg : Gl X "list" := by rfl) (hg2 : Gl X "range" := by rfl) (hc : X.calm = true := by rfl)
    (na : starEach [e, e2] X.env = (false, eval e X.env) :: starEach [e2] X.env := by rfl) (nb : starEach [e2] X.env = (false, eval e2 X.env) :: starEach [] X.env := by rfl) (hp : (backTo q (starEach [e2] X.env)).any (·.1) = false := by rfl)
    (nc : starEach [.Call (.Name "range" p2) [e, e2] [] q] X.env = (false, eval (.Call (.Name "range" p2) [e, e2] [] q) X.env) :: starEach [] X.env := by rfl) :
    QE X C (.Call (.Name "list" p) [.Call (.Name "range" p2) [e, e2] [] q] [] pos) (vLRgA ve vb) := by
  obtain ⟨t, pt, s⟩ := he.ex
  obtain ⟨t2, pt2, s2⟩ := hb.ex
  refine ⟨_, pe_listAny hc hg hm (prg_2 hg2 hm2 pt pt2 na nb hp) nc, fun γ M R σ H Q r h k => s γ M _ σ H _ r h fun d M1 x H1 o1 i1 e1 h1 => s2 γ M1 _ σ H1 _ (r.mk' e1 o1) h1 fun f M2 y H2 o2 i2 e2 h2 => ?_⟩
  cases d with
  | int i =>
    cases f with
    | int j =>
      unfold Is at i1 i2
      exact ⟨i, j, i1, i2, h2.1, fun l hl => k _ M2 _ _ (o2.new hl) (new_lst o2 hl (isL_rg i j)) ((e1.trans e2).trans (Ext.new hl)) h2.2⟩
    | _ => exact False.elim h2
  | _ => exact False.elim h2
end
end Dl
namespace Dl
open PySem L2
/-! ### xs + ys, owned -/
def oAddO : DO := fun d e M R => match lstI M d, lstI M e with
  | some xs, some ys => xs.length + ys.length ≤ sizeLine ∧ pureL (xs ++ ys) = true ∧ ∀ p, M p = none → R (.own p) (mset M p (.lst (xs ++ ys)))
  | _, _ => False
theorem f_addO {d e : D} {M : Mem} {R : DR} {xs ys : List D} (h1 : lstI M d = some xs) (h2 : lstI M e = some ys) : oAddO d e M R = (xs.length + ys.length ≤ sizeLine ∧ pureL (xs ++ ys) = true ∧ ∀ p, M p = none → R (.own p) (mset M p (.lst (xs ++ ys)))) := by
  unfold oAddO; rw [h1, h2]
theorem f_addOLL {M : Mem} {R : DR} {xs ys : List D} : oAddO (.lst xs) (.lst ys) M R = (xs.length + ys.length ≤ sizeLine ∧ pureL (xs ++ ys) = true ∧ ∀ p, M p = none → R (.own p) (mset M p (.lst (xs ++ ys)))) := f_addO rfl rfl
theorem sndO_addO {G : Gx} : SndO G (rAddAll G.K) oAddO := fun d e M R H x y Q o i1 i2 h k => by
  unfold oAddO at h
  cases e1 : lstI M d with
  | none => rw [e1] at h; exact h.elim
  | some xs =>
    cases e2 : lstI M e with
    | none => rw [e1, e2] at h; exact h.elim
    | some ys =>
      rw [e1, e2] at h
      obtain ⟨hz, pu, hr⟩ := h
      obtain ⟨p, us, rfl, l1, h1⟩ := lst_at o i1 e1
      obtain ⟨q, ws, rfl, l2, h2⟩ := lst_at o i2 e2
      refine .inr (.inr ⟨p, q, us, ws, rfl, rfl, h1, h2, by rw [← l1.len, ← l2.len]; exact hz, fun n hn => ?_⟩)
      exact k _ (mset M n (.lst (xs ++ ys))) _ _ (o.newOwn hn pu (l1.append l2)) is_own (Ext.newOwn hn) (hr n (o.fresh hn))
section
variable {X : Cx} {C : Addr} {a b : Expr} {va vb : DE} {pos : Pos}
theorem q_addO (ha : QE X C a va) (hb : QE X C b vb) : QE X C (.BinOp a .Add b pos) (vOp oAddO va vb) := qe_op op_addAll sndO_addO ha hb
end
end Dl
namespace Dl
open PySem L2
/-! ### comprehensions whose list is owned -/
section
variable {X : Cx} {C : Addr} {e : Expr} {pos : Pos} {vs : List Nat}
/-- [e for g in w if t], owned: W by the turn, what was made so far, the memory without the new list -/
def vLcO (w : DI) (g : DG) (t : DT) (e : DE) (vs : List Nat) : DE := fun γ M R => w γ M fun j M1 => ∀ p, M1 p = none → ∃ W : Nat → List D → Mem → Prop, W 0 [] M1 ∧
  (∀ i acc M', W i acc M' → M' p = none ∧ acc.length < sizeLine ∧ j.st (mset M' p (.lst acc))) ∧
  (∀ i acc M' d, W i acc M' → j.its[i]? = some d → g d (gwipe γ vs) (mset M' p (.lst acc)) fun γ2 M2 => t γ2 M2 fun b M3 =>
    (b = true → e γ2 M3 fun y M4 => pureD y = true ∧ ∃ M5, M4 = mset M5 p (.lst acc) ∧ W (i + 1) (acc ++ [y]) M5) ∧ (b = false → ∃ M5, M3 = mset M5 p (.lst acc) ∧ W (i + 1) acc M5)) ∧
  (∀ acc M', W j.its.length acc M' → R (.own p) (mset M' p (.lst acc)))
theorem snd_lcO {G : Gx} {wi : TI} {w : DI} {g : DG} {t : DT} {ve : DE} (si : SndI G wi w) : Snd G (tLc wi (liftG G g vs) (liftT G t) (Dl.lift G ve) vs) (vLcO w g t ve vs) := by
  intro γ M R σ H Q r h k
  refine si γ M _ σ H _ r h fun j J M1 H1 o1 e1 ir h1 p hp => ?_
  have mp : M1 p = none := o1.fresh hp
  obtain ⟨W, w0, ws, step, fin⟩ := h1 p mp
  have own0 : Own G (mset M1 p (.lst [])) (upd H1 p (.lst [])) := o1.newOwn hp (by simp [pureL]) IsL.nil
  refine ⟨fun i m H' => m = j.its.length - i ∧ i ≤ j.its.length ∧ ∃ acc M', Own G (mset M' p (.lst acc)) H' ∧ Ext M1 (mset M' p (.lst acc)) H1 H' ∧ W i acc M', ⟨j.its.length, by simp, Nat.zero_le _, [], M1, own0, Ext.newOwn hp, w0⟩, ?_⟩
  rintro i m H' ⟨rfl, hi, acc, M', oM, eM, wi'⟩
  obtain ⟨mp', hz, hst⟩ := ws i acc M' wi'
  obtain ⟨go, stop⟩ := ir _ H' eM oM hst i
  by_cases hlt : i < j.its.length
  · have hd : j.its[i]? = some j.its[i] := by simp [hlt]
    obtain ⟨g1, y1⟩ := go _ hd
    refine .inr ⟨g1, fun H2 => ∃ acc M', Own G (mset M' p (.lst acc)) H2 ∧ Ext M1 (mset M' p (.lst acc)) H1 H2 ∧ W (i + 1) acc M', fun H2 q => ⟨j.its.length - (i + 1), by omega, rfl, hlt, q⟩, fun x H2 hy => ?_⟩
    obtain ⟨o2, i2, e2⟩ := y1 x H2 hy
    have x2 := eM.trans e2
    refine ⟨j.its[i], gwipe γ vs, mset M' p (.lst acc), _, ⟨((r.sl.ext (e1.trans x2)).wipe vs), o2⟩, i2, step i acc M' _ wi' hd, fun γ3 M3 σ3 H3 r3 e3 w3 h3 => ⟨w3.trans wipe_wipe, ?_⟩⟩
    refine ⟨γ3, M3, _, r3, h3, fun b M4 H4 o4 e4 h4 => ?_⟩
    cases b with
    | true =>
      rw [if_pos rfl]
      refine ⟨γ3, M4, _, r3.mk' e4 o4, h4.1 rfl, fun y M5 v H5 o5 i5 e5 h5 => ?_⟩
      obtain ⟨pu, M6, eq, w6⟩ := h5
      subst eq
      obtain ⟨pa, xs, hx, hl⟩ := o5 p (.lst acc) mset_same
      refine ⟨xs, hx, by rw [← hl.len]; exact hz, acc ++ [y], M6, ?_, ?_, w6⟩
      · have q := o5.put (p := p) (ds := acc ++ [y]) (xs := xs ++ [v]) (by rw [mset_same]; rfl) (pureL_append pa (by simp [pureL, pu])) (hl.append (IsL.cons i5 IsL.nil))
        rw [mset_set] at q
        exact q
      · have q := ((x2.trans e3).trans (e4.trans e5)).trans (Ext.put (p := p) (o := .lst (xs ++ [v])) (m := .lst (acc ++ [y])) (by rw [mset_same]; rfl))
        rw [mset_set] at q
        exact q
    | false =>
      rw [if_neg Bool.false_ne_true]
      obtain ⟨M6, eq, w6⟩ := h4.2 rfl
      subst eq
      exact ⟨acc, M6, o4, (x2.trans e3).trans e4, w6⟩
  · have en : i = j.its.length := by omega
    subst en
    refine .inl ⟨stop (Nat.le_refl _), ?_⟩
    obtain ⟨pa, xs, hx, hl⟩ := oM p (.lst acc) mset_same
    exact k (.own p) (mset M' p (.lst acc)) (.ref p) H' oM is_own (e1.trans eM) (fin acc M' wi')
theorem q_lcO {elt tg iter : Expr} {ifs : List Expr} {scope : Scope} {own : List (Str × Nat)} {w : DI} {g : DG} {t : DT} {ve : DE} (hN : X.N.Nodup) (hi : QI X C tg iter w) (ok : BlkOk X.N X.env.scope scope own)
    (hg : ∀ (s : Shared) (H : Hp) (a : Addr) (cl : List (Str × Addr)) (fp : List Addr), QGW (X.blk s H scope (compEnvC scope cl a X.env) fp) C tg g (own.map (·.2))) (ht : ∀ (s : Shared) (H : Hp) (a : Addr) (cl : List (Str × Addr)) (fp : List Addr), QTs (X.blk s H scope (compEnvC scope cl a X.env) fp) C ifs t)
    (he : ∀ (s : Shared) (H : Hp) (a : Addr) (cl : List (Str × Addr)) (fp : List Addr), QE (X.blk s H scope (compEnvC scope cl a X.env) fp) C elt ve) (hc : X.calm = true := by rfl) (hs : ∀ x, foldedSetIterable iter X.env x = pure x := by intro _; rfl) :
    QE X C (.ListComp elt [⟨tg, iter, ifs, 0⟩] scope pos) (vLcO w g t ve (own.map (·.2))) := by
  obtain ⟨wi, pi, si⟩ := hi.ex
  exact ⟨_, pe_lc hc hN pi ok (fun s H a cl fp => (hg s H a cl fp).lift) (fun s H a cl fp => (ht s H a cl fp).lift) (fun s H a cl fp => (he s H a cl fp).lift) hs, snd_lcO si⟩
/-- y = [..] -/
theorem qs_setLcO {i : Nat} {y : Str} {py spos : Pos} {elt tg iter : Expr} {ifs : List Expr} {scope : Scope} {own : List (Str × Nat)} {w : DI} {g : DG} {t : DT} {ve : DE} (hN : X.N.Nodup) (hi : QI X C tg iter w) (ok : BlkOk X.N X.env.scope scope own)
    (hg : ∀ (s : Shared) (H : Hp) (a : Addr) (cl : List (Str × Addr)) (fp : List Addr), QGW (X.blk s H scope (compEnvC scope cl a X.env) fp) C tg g (own.map (·.2))) (ht : ∀ (s : Shared) (H : Hp) (a : Addr) (cl : List (Str × Addr)) (fp : List Addr), QTs (X.blk s H scope (compEnvC scope cl a X.env) fp) C ifs t)
    (he : ∀ (s : Shared) (H : Hp) (a : Addr) (cl : List (Str × Addr)) (fp : List Addr), QE (X.blk s H scope (compEnvC scope cl a X.env) fp) C elt ve) (hsw : swapsWith (.ListComp elt [⟨tg, iter, ifs, 0⟩] scope pos) (some (.Name y py)) spos.line X.env = pure true) (hy : X.N[i]? = some y := by rfl) (hyl : X.env.scope.names.lookup y = some .local := by rfl) (hc : X.calm = true := by rfl) (hs : ∀ x, foldedSetIterable iter X.env x = pure x := by intro _; rfl) :
    QS X C (.Assign [.Name y py] (.ListComp elt [⟨tg, iter, ifs, 0⟩] scope pos) spos) (vAsg (vLcO w g t ve (own.map (·.2))) (dName i)) := by
  obtain ⟨wi, pi, si⟩ := hi.ex
  exact ⟨_, ps_setLc hc hN hy hyl hsw pi ok (fun s H a cl fp => (hg s H a cl fp).lift) (fun s H a cl fp => (ht s H a cl fp).lift) (fun s H a cl fp => (he s H a cl fp).lift) hs, snd_asg (snd_lcO si) sndG_name⟩
end
theorem vlcO_rng1 {va : DA} {g : DG} {t : DT} {e : DE} {vs : List Nat} {γ : Gm} {M : Mem} {a : Addr} {m : MO} {R : DR} (k : Int) (hva : ∀ F : List D → Mem → Prop, F [.int k] (mset M a m) → va γ (mset M a m) F) (hk0 : -4611686018427387904 ≤ k) (hk1 : k < 4611686018427387904)
    (Pm : Nat → MO → Prop) (Pa : Nat → List D → Prop) (h0 : Pm 0 m) (a0 : Pa 0 []) (hl : ∀ i acc, Pa i acc → acc.length < sizeLine)
    (step : ∀ i acc m' p, p ≠ a → Pm i m' → Pa i acc → i < k.toNat → g (.int (i : Int)) (gwipe γ vs) (mset (mset M p (.lst acc)) a m') fun γ2 M2 => t γ2 M2 fun b M3 =>
      (b = true → e γ2 M3 fun y M4 => pureD y = true ∧ ∃ M5, M4 = mset M5 p (.lst acc) ∧ ∃ m2, M5 = mset M a m2 ∧ Pm (i + 1) m2 ∧ Pa (i + 1) (acc ++ [y])) ∧ (b = false → ∃ M5, M3 = mset M5 p (.lst acc) ∧ ∃ m2, M5 = mset M a m2 ∧ Pm (i + 1) m2 ∧ Pa (i + 1) acc))
    (hR : ∀ acc m' p, M p = none → p ≠ a → Pm k.toNat m' → Pa k.toNat acc → R (.own p) (mset (mset M a m') p (.lst acc))) : vLcO (wRng1 va) g t e vs γ (mset M a m) R :=
  hva _ ⟨hk0, hk1, fun p hp => lc_rng (R := fun d M' => match d with | .lst acc => R (.own p) (mset M' p (.lst acc)) | _ => False) Pm Pa h0 a0 hl (fun i acc m' p hne hm ha hi => by rw [Int.zero_add]; exact step i acc m' p hne hm ha hi) (fun acc m' hm ha => hR acc m' p (mset_none hp).1 (mset_none hp).2 hm ha) p hp⟩
end Dl
namespace Dl
open PySem L2
/-! ### xs * k, repr of small values, sorted(set(xs)) owned -/
def oRep : DO := fun d e M R => match d, e with
  | .lst xs, .int k => 0 ≤ k ∧ k < 2 ^ 63 ∧ xs.length * k.toNat ≤ sizeLine ∧ R (.lst (List.replicate k.toNat xs).flatten) M
  | _, _ => False
theorem f_rep {M : Mem} {R : DR} {xs : List D} {k : Int} : oRep (.lst xs) (.int k) M R = (0 ≤ k ∧ k < 2 ^ 63 ∧ xs.length * k.toNat ≤ sizeLine ∧ R (.lst (List.replicate k.toNat xs).flatten) M) := rfl
theorem IsL.rep {G : Gx} {M : Mem} {H : Hp} {ds : List D} {xs : List V} (h : IsL G M H ds xs) : ∀ n, IsL G M H (List.replicate n ds).flatten (List.replicate n xs).flatten
  | 0 => IsL.nil
  | n + 1 => by
    rw [List.replicate_succ, List.replicate_succ, List.flatten_cons, List.flatten_cons]
    exact h.append (IsL.rep h n)
theorem sndO_rep {G : Gx} : SndO G rRep oRep := fun d e M R H x y Q o i1 i2 h k => by
  unfold oRep at h
  split at h
  · rename_i xs j
    obtain ⟨h0, h1, hz, hr⟩ := h
    unfold Is at i1 i2
    obtain ⟨a, us, rfl, ha, hH, hl⟩ := i1
    obtain rfl := i2
    refine ⟨a, j, us, rfl, rfl, hH, by omega, by omega, by rw [← hl.len]; exact hz, fun p hp => ?_⟩
    exact k _ M _ _ (o.new hp) (new_lst o hp (hl.rep _)) (Ext.new hp) hr
  · exact h.elim
def rReprS : List V → Hp → VK → Prop := fun xs H Q => (∃ b : Bool, xs = [.bl b] ∧ Q (.str (if b then "True" else "False")) H) ∨ (xs = [.non] ∧ Q (.str "None") H) ∨ ∃ i : Int, xs = [.int i] ∧ i.natAbs.log2 < 1920 ∧ Q (.str (toString i)) H
section
variable {X : Cx} {C : Addr} {a b : Expr} {va vb : DE} {pos : Pos}
theorem q_rep (ha : QE X C a va) (hb : QE X C b vb) : QE X C (.BinOp a .Mult b pos) (vOp oRep va vb) := qe_op op_rep sndO_rep ha hb
theorem cr_reprS : CallR X (.builtin "repr") rReprS := by
  intro pins s σ H xs us Q I r h
  rcases h with ⟨b, rfl, q⟩ | ⟨rfl, q⟩ | ⟨i, rfl, hz, q⟩
  · obtain ⟨u, rfl, t⟩ := vals1 r
    obtain rfl : u = Value.bool b := t
    exact PySem.P.repr_of_bool ⟨.str _, H, I.tok _, ⟨_, rfl⟩, q⟩
  · obtain ⟨u, rfl, t⟩ := vals1 r
    obtain rfl : u = Value.none := t
    exact PySem.P.repr_of_none ⟨.str _, H, I.tok _, ⟨_, rfl⟩, q⟩
  · obtain ⟨u, rfl, t, rfl⟩ := vals1 r
    exact PySem.P.repr_of_int hz ⟨.str _, H, I.tok _, ⟨_, rfl⟩, q⟩
def oRepr : DC := fun ds M R => match ds with
  | [.bl b] => R (.str (if b then "True" else "False")) M
  | [.non] => R (.str "None") M
  | [.int i] => i.natAbs.log2 < 1920 ∧ R (.str (toString i)) M
  | _ => False
theorem f_reprB {b : Bool} {M : Mem} {R : DR} : oRepr [.bl b] M R = R (.str (if b then "True" else "False")) M := rfl
theorem f_reprN {M : Mem} {R : DR} : oRepr [.non] M R = R (.str "None") M := rfl
theorem f_reprI {i : Int} {M : Mem} {R : DR} : oRepr [.int i] M R = (i.natAbs.log2 < 1920 ∧ R (.str (toString i)) M) := rfl
theorem bb_repr : bootBuiltins "repr" = some (.builtin "repr") := by decide +kernel
theorem b_repr : BQ X C (.builtin "repr") oRepr := ⟨_, cr_reprS, fun ds M R H xs Q o i1 h k => by
  unfold oRepr at h
  split at h
  · rename_i b
    obtain ⟨x, rfl, ix⟩ := isL1 i1
    unfold Is at ix
    subst ix
    exact .inl ⟨b, rfl, k _ M _ H o is_str Ext.refl h⟩
  · obtain ⟨x, rfl, ix⟩ := isL1 i1
    unfold Is at ix
    subst ix
    exact .inr (.inl ⟨rfl, k _ M _ H o is_str Ext.refl h⟩)
  · rename_i i
    obtain ⟨x, rfl, ix⟩ := isL1 i1
    unfold Is at ix
    subst ix
    exact .inr (.inr ⟨i, rfl, h.1, k _ M _ H o is_str Ext.refl h.2⟩)
  · exact h.elim⟩
end
section
variable {X : Cx} {C : Addr} {e : Expr} {pos p1 p2 pos2 : Pos}
def vSortSetO (o : DE) : DE := fun γ M R => o γ M fun d M1 => match intsOf M1 d with
  | some ns => ns.length < 64 ∧ ∀ ns' : List Int, ns'.Pairwise (· < ·) → (∀ k : Int, k ∈ ns' ↔ k ∈ ns) → ∀ p, M1 p = none → R (.own p) (mset M1 p (.lst (ns'.map .int)))
  | none => False
theorem e_vSortSetO (o : DE) (γ : Gm) (M : Mem) (R : DR) : vSortSetO o γ M R = (o γ M fun d M1 => match intsOf M1 d with
  | some ns => ns.length < 64 ∧ ∀ ns' : List Int, ns'.Pairwise (· < ·) → (∀ k : Int, k ∈ ns' ↔ k ∈ ns) → ∀ p, M1 p = none → R (.own p) (mset M1 p (.lst (ns'.map .int)))
  | none => False) := propext Iff.rfl
theorem q_sortsetO {vo : DE} (ho : QE X C e vo) (hg1 : Gl X "sorted") (hm1 : X.mg "sorted" = none) (hg2 : Gl X "set") (hm2 : X.mg "set" = none) (hc : X.calm = true := by rfl) (hs1 : starEach [e] X.env = [(false, eval e X.env)] := by rfl)
    (hs2 : starEach [.Call (.Name "set" p2) [e] [] pos2] X.env = [(false, eval (.Call (.Name "set" p2) [e] [] pos2) X.env)] := by rfl) :
    QE X C (.Call (.Name "sorted" p1) [.Call (.Name "set" p2) [e] [] pos2] [] pos) (vSortSetO vo) := by
  obtain ⟨to, po, so⟩ := ho.ex
  have pin : PE X (.Call (.Name "set" p2) [e] [] pos2) (tCB (rSetI X.K X.w) (tCons to tNil)) := pe_callTy (cr_setI hc) hg2 hm2 bb_set (pa_cons po pa_nil hs1) (by decide) (by decide) hs1 rfl
  have pout : PE X (.Call (.Name "sorted" p1) [.Call (.Name "set" p2) [e] [] pos2] [] pos) (tCB (rSortedSet X.w) (tCons (tCB (rSetI X.K X.w) (tCons to tNil)) tNil)) := pe_callB (cr_sortedSet hc) hg1 hm1 bb_sorted (pa_cons pin pa_nil hs2) (by decide) (by decide) hs2 rfl
  refine ⟨_, pout, fun γ M R σ H Q r h k => so γ M _ σ H _ r h fun d M1 x H1 o1 i1 e1 h1 => ?_⟩
  split at h1
  · rename_i ns en
    obtain ⟨a, rfl, sq⟩ := ints_at o1 i1 en
    refine ⟨a, ns, rfl, sq, h1.1, fun p c hp hcn => ?_⟩
    refine ⟨p, _, c, rfl, upd_same, by have := h1.1; omega, fun ns' p' pw hm _ hp' => ?_⟩
    have o2 : Own ⟨X.K, C⟩ M1 (upd H1 p (SetO X.w p (fun j => decide (j ∈ ns)) c)) := o1.new hp
    exact k _ (mset M1 p' (.lst (ns'.map .int))) _ _ (o2.newOwn hp' (pure_ints ns') (isL_ints ns')) is_own ((e1.trans (Ext.new hp)).trans (Ext.newOwn hp')) (h1.2 ns' pw (fun k => by rw [hm k, decide_eq_true_eq]) p' (o2.fresh hp'))
  · exact h1.elim
end
end Dl
namespace Dl
open PySem L2
/-! ### a number in a list of numbers -/
section
variable {X : Cx} {C : Addr}
def oInLG (f : Bool → Bool) : DO := fun d t M R => match d, t with
  | .int z, .lst ds => (match intsD ds with
    | some ns => R (.bl (f (decide (z ∈ ns)))) M
    | none => False)
  | _, _ => False
abbrev oInL : DO := oInLG id
abbrev oNotInL : DO := oInLG Bool.not
theorem f_inL {f : Bool → Bool} {z : Int} {ds : List D} {M : Mem} {R : DR} {ns : List Int} (h : intsD ds = some ns) : oInLG f (.int z) (.lst ds) M R = R (.bl (f (decide (z ∈ ns)))) M := by
  unfold oInLG; simp only [h]
theorem ints_toPL : ∀ {ds : List D} {ns : List Int}, intsD ds = some ns → toPL ds = some (ns.map PyData.int)
  | [], ns, h => by unfold intsD at h; cases h; rfl
  | .int x :: r, ns, h => by
    have h' : (intsD r).map (x :: ·) = some ns := h
    cases q : intsD r with
    | none => rw [q] at h'; cases h'
    | some vs =>
      rw [q] at h'
      cases h'
      have := ints_toPL q
      unfold toPL toP
      rw [this]
      rfl
theorem canLay_ints : ∀ ns : List Int, PyData.canLayAll0 (ns.map PyData.int) = true
  | [] => rfl
  | _ :: r => by
    show (_ && PyData.canLayAll0 (r.map PyData.int)) = true
    rw [canLay_ints r]
    rfl
theorem any_ints (z : Int) : ∀ ns : List Int, ((ns.map PyData.int).any fun y => PyData.eqv y (.int z)) = decide (z ∈ ns)
  | [] => rfl
  | x :: r => by
    rw [List.map_cons, List.any_cons, any_ints z r]
    have e : PyData.eqv (.int x) (.int z) = decide (x = z) := beq_dec ..
    rw [e]
    by_cases h : x = z
    · subst h; simp
    · have h2 : ¬ z = x := fun q => h q.symm
      simp [h, h2]
def rInI (f : Bool → Bool) (K : PySem.W.Frag) : R2 := fun x y H Q => ∃ (z : Int) (ns : List Int), Dp K H x (.int z) ∧ Dp K H y (.list (ns.map .int)) ∧ Q (.bl (f (decide (z ∈ ns)))) H
theorem op_inI {k : Nat} (hr : Room k X.A) : OpR X (compareOp .In) (rInI id X.K) := by
  intro pins s σ H x y v u Q I rx ry h
  obtain ⟨z, ws, hd, he, q⟩ := h
  obtain ⟨as, r1⟩ := Dp.reads I _ x v hd rx
  obtain ⟨bs, r2⟩ := Dp.reads I _ y u he ry
  have hu := hr.units
  exact SeqAt.in_list_reads r2 r1 (canLay_ints ws) rfl (by show _ + 1 + min _ 0 < _; omega) ⟨.bl _, H, I, rfl, by rw [any_ints]; exact q⟩
theorem op_notInI {k : Nat} (hr : Room k X.A) : OpR X (compareOp .NotIn) (rInI Bool.not X.K) := by
  intro pins s σ H x y v u Q I rx ry h
  obtain ⟨z, ws, hd, he, q⟩ := h
  obtain ⟨as, r1⟩ := Dp.reads I _ x v hd rx
  obtain ⟨bs, r2⟩ := Dp.reads I _ y u he ry
  have hu := hr.units
  exact SeqAt.notIn_list_reads r2 r1 (canLay_ints ws) rfl (by show _ + 1 + min _ 0 < _; omega) ⟨.bl _, H, I, rfl, by rw [any_ints]; exact q⟩
theorem sndO_inI {G : Gx} {f : Bool → Bool} : SndO G (rInI f G.K) (oInLG f) := fun d e M R H x y Q o i1 i2 h k => by
  unfold oInLG at h
  split at h
  · rename_i z ds
    split at h
    · rename_i ns q
      have p : toP (.lst ds) = some (.list (ns.map .int)) := by unfold toP; rw [ints_toPL q]; rfl
      exact ⟨z, ns, toP_ok _ _ _ i1 (by unfold toP; rfl), toP_ok _ _ _ i2 p, k _ M _ H o is_bl Ext.refl h⟩
    · exact h.elim
  · exact h.elim
theorem c_inL {k : Nat} (hr : Room k X.A) : CmpQ X C .In oInL := ⟨_, op_inI hr, sndO_inI⟩
theorem c_notInL {k : Nat} (hr : Room k X.A) : CmpQ X C .NotIn oNotInL := ⟨_, op_notInI hr, sndO_inI⟩
end
end Dl
namespace Dl
open PySem L2
/-! ### arguments by name, put in order -/
section
variable {α : Type} {a b c d e f g : α}
theorem pk11 : pickL [0, 1] [a] [b] = [a, b] := rfl
theorem pk21 : pickL [0, 1, 2] [a, b] [c] = [a, b, c] := rfl
theorem pk31 : pickL [0, 1, 2, 3] [a, b, c] [d] = [a, b, c, d] := rfl
theorem pk41 : pickL [0, 1, 2, 3, 4] [a, b, c, d] [e] = [a, b, c, d, e] := rfl
theorem pk51 : pickL [0, 1, 2, 3, 4, 5] [a, b, c, d, e] [f] = [a, b, c, d, e, f] := rfl
end
theorem cp9 : CP 10 30 := ⟨by decide, by decide +kernel⟩
theorem cp10 : CP 10 20 := ⟨by decide, by decide +kernel⟩
end Dl
namespace L2
open PySem PySem.Spec PyProof.Rows
section
variable {X : Cx} {a b c d : Expr} {ta tb tc td : TE} {pos : Pos}
/-- a op1 b op2 c op3 d -/
def tChain3 (r r' r'' : R2) (ta tb tc td : TE) : TE := fun σ H Q => ta σ H fun x H1 => tb σ H1 fun y H2 => r x y H2 fun z H3 => ∃ k, z = .bl k ∧
  (if k = true then tc σ H3 fun w H4 => r' y w H4 fun z2 H5 => ∃ k2, z2 = .bl k2 ∧ (if k2 = true then td σ H5 fun w2 H6 => r'' w w2 H6 Q else Q (.bl false) H5) else Q (.bl false) H3)
theorem pt_chain3 {op op' op'' : CmpOp} {r r' r'' : R2} (ho : OpR X (compareOp op) r) (ho' : OpR X (compareOp op') r') (ho'' : OpR X (compareOp op'') r'') (ha : PE X a ta) (hb : PE X b tb) (hc : PE X c tc) (hd : PE X d td)
    (hm : lastMarks [op, op', op''] [b, c, d] = false := by with_unfolding_all rfl) : PT X (.Compare a [op, op', op''] [b, c, d] pos) (tTest (tChain3 r r' r'' ta tb tc td)) := by
  refine ⟨fun pins s σ H Q I h => ?_⟩
  refine isTrue_chain (thn (ha.run pins s σ H _ I h) fun v s1 ⟨x, H1, I1, r1, q1⟩ => test_link (thn (hb.run pins s1 σ H1 _ I1 q1) fun u s2 ⟨y, H2, I2, r2, q2⟩ =>
    thn (ho pins s2 σ H2 x y v u _ I2 r1 r2 q2) fun d s3 ⟨z, H3, I3, r3, k, e, q3⟩ => ?_)) hm
  subst e
  cases r3
  refine wpAny_truthy_bool ?_
  cases k with
  | false =>
    obtain ⟨k', e', q'⟩ := q3
    cases e'
    exact ite_ff ⟨H3, I3, q'⟩
  | true =>
    refine ite_tt (test_link (thn (hc.run pins s3 σ H3 _ I3 q3) fun w' s4 ⟨z', H4, I4, r4, q4⟩ => thn (ho' pins s4 σ H4 y z' u w' _ I4 r2 r4 q4) fun d' s5 ⟨z2, H5, I5, r5, k2, e2, q5⟩ => ?_))
    subst e2
    cases r5
    refine wpAny_truthy_bool ?_
    cases k2 with
    | false =>
      obtain ⟨k', e', q'⟩ := q5
      cases e'
      exact ite_ff ⟨H5, I5, q'⟩
    | true =>
      refine ite_tt (test_last (thn (hd.run pins s5 σ H5 _ I5 q5) fun w2 s6 ⟨z3, H6, I6, r6, q6⟩ => thn (ho'' pins s6 σ H6 z' z3 w' w2 _ I6 r4 r6 q6) fun d2 s7 ⟨z4, H7, I7, r7, k3, e3, q7⟩ => ?_))
      subst e3
      cases r7
      exact wpAny_truthy_bool ⟨H7, I7, q7⟩
end
end L2
namespace Dl
open PySem L2
section
variable {X : Cx} {C : Addr} {a b c d : Expr} {va vb vc vd : DE} {pos : Pos}
def vChain3 (o o' o'' : DO) (a b c d : DE) : DE := fun γ M R => a γ M fun x M1 => b γ M1 fun y M2 => o x y M2 fun z M3 => match z with
  | .bl k => (k = true → c γ M3 fun w M4 => o' y w M4 fun z2 M5 => match z2 with
      | .bl k2 => (k2 = true → d γ M5 fun w2 M6 => o'' w w2 M6 R) ∧ (k2 = false → R (.bl false) M5)
      | _ => False) ∧ (k = false → R (.bl false) M3)
  | _ => False
theorem e_vChain3 (o o' o'' : DO) (a b c d : DE) (γ : Gm) (M : Mem) (R : DR) : vChain3 o o' o'' a b c d γ M R = (a γ M fun x M1 => b γ M1 fun y M2 => o x y M2 fun z M3 => match z with
  | .bl k => (k = true → c γ M3 fun w M4 => o' y w M4 fun z2 M5 => match z2 with
      | .bl k2 => (k2 = true → d γ M5 fun w2 M6 => o'' w w2 M6 R) ∧ (k2 = false → R (.bl false) M5)
      | _ => False) ∧ (k = false → R (.bl false) M3)
  | _ => False) := propext Iff.rfl
theorem snd_chain3 {G : Gx} {ta tb tc td : TE} {r r' r'' : R2} {o o' o'' : DO} (sa : Snd G ta va) (sb : Snd G tb vb) (sc : Snd G tc vc) (sd : Snd G td vd) (s1 : SndO G r o) (s2 : SndO G r' o') (s3 : SndO G r'' o'') : Snd G (tChain3 r r' r'' ta tb tc td) (vChain3 o o' o'' va vb vc vd) := fun γ M R σ H Q re h k =>
  sa γ M _ σ H _ re h fun d M1 x H1 o1 i1 e1 h1 => sb γ M1 _ σ H1 _ (re.mk' e1 o1) h1 fun d2 M2 y H2 o2 i2 e2 h2 =>
    s1 d d2 M2 _ H2 x y _ o2 (Is.ext e2 d x i1) i2 h2 fun d3 M3 z H3 o3 i3 e3 h3 => by
      cases d3 with
      | bl b =>
        unfold Is at i3
        refine ⟨b, i3, ?_⟩
        cases b with
        | true =>
          rw [if_pos rfl]
          refine sc γ M3 _ σ H3 _ (re.mk' ((e1.trans e2).trans e3) o3) (h3.1 rfl) fun d4 M4 w H4 o4 i4 e4 h4 => ?_
          refine s2 d2 d4 M4 _ H4 y w _ o4 (Is.ext (e3.trans e4) d2 y i2) i4 h4 fun d5 M5 u H5 o5 i5 e5 h5 => ?_
          cases d5 with
          | bl b2 =>
            unfold Is at i5
            refine ⟨b2, i5, ?_⟩
            cases b2 with
            | true =>
              rw [if_pos rfl]
              refine sd γ M5 _ σ H5 _ (re.mk' ((((e1.trans e2).trans e3).trans e4).trans e5) o5) (h5.1 rfl) fun d6 M6 w6 H6 o6 i6 e6 h6 => ?_
              exact s3 d4 d6 M6 R H6 w w6 Q o6 (Is.ext (e5.trans e6) d4 w i4) i6 h6 fun d7 M7 u7 H7 o7 i7 e7 h7 => k d7 M7 u7 H7 o7 i7 ((((((e1.trans e2).trans e3).trans e4).trans e5).trans e6).trans e7) h7
            | false =>
              rw [if_neg Bool.false_ne_true]
              exact k _ M5 _ H5 o5 is_bl ((((e1.trans e2).trans e3).trans e4).trans e5) (h5.2 rfl)
          | _ => exact False.elim h5
        | false =>
          rw [if_neg Bool.false_ne_true]
          exact k _ M3 _ H3 o3 is_bl ((e1.trans e2).trans e3) (h3.2 rfl)
      | _ => exact False.elim h3
theorem qt_chain3 {op op' op'' : CmpOp} {o o' o'' : DO} (ho : CmpQ X C op o) (ho' : CmpQ X C op' o') (ho'' : CmpQ X C op'' o'') (ha : QE X C a va) (hb : QE X C b vb) (hc : QE X C c vc) (hd : QE X C d vd) (hm : lastMarks [op, op', op''] [b, c, d] = false := by with_unfolding_all rfl) : QT X C (.Compare a [op, op', op''] [b, c, d] pos) (vB (vChain3 o o' o'' va vb vc vd)) := by
  obtain ⟨r, pr, sr⟩ := ho.ex
  obtain ⟨r', pr', sr'⟩ := ho'.ex
  obtain ⟨r'', pr'', sr''⟩ := ho''.ex
  obtain ⟨ta, pa, sa⟩ := ha.ex
  obtain ⟨tb, pb, sb⟩ := hb.ex
  obtain ⟨tc, pc, sc⟩ := hc.ex
  obtain ⟨td, pd, sd⟩ := hd.ex
  exact ⟨_, pt_chain3 pr pr' pr'' pa pb pc pd hm, snd_test (snd_chain3 sa sb sc sd sr sr' sr'')⟩
end
end Dl
namespace Dl
open PySem L2
/-! ### more loops: range(a, b), enumerate in a comprehension -/
theorem vfor_rng2 {va : DA} {g : DG} {b : DS} {Ed : DEnds} {γ : Gm} {M M1 : Mem} (lo hi : Int) (hva : ∀ F : List D → Mem → Prop, F [.int lo, .int hi] M1 → va γ M F) (W : Nat → Gm → Mem → Prop) (h0 : W 0 γ M1)
    (step : ∀ i γ' M', W i γ' M' → i < (hi - lo).toNat → g (.int (lo + (i : Int))) γ' M' fun γ2 M2 => b { Ed with nx := W (i + 1), ct := W (i + 1), bk := Ed.nx } γ2 M2) (hd : ∀ γ' M', W (hi - lo).toNat γ' M' → Ed.nx γ' M') : vFor (wRng2 va) g b Ed γ M :=
  hva _ ⟨W, h0, fun _ _ _ _ => trivial, fun i d γ' M' w hq => by
    obtain ⟨hlt, rfl⟩ := (rngD_get _ _ _ _).mp hq
    exact step i γ' M' w hlt, fun γ' M' w => by
    have e : (rngD lo (hi - lo).toNat).length = (hi - lo).toNat := rngD_len _ _
    exact hd γ' M' (by rw [← e]; exact w)⟩
theorem vlc_enum {va : DA} {g : DG} {t : DT} {e : DE} {vs : List Nat} {γ : Gm} {M M1 : Mem} {R : DR} (ds : List D) (hva : ∀ F : List D → Mem → Prop, F [.lst ds] M1 → va γ M F) (Pa : Nat → List D → Prop) (a0 : Pa 0 []) (hl : ∀ i acc, Pa i acc → acc.length < sizeLine)
    (step : ∀ i acc x p, M1 p = none → Pa i acc → ds[i]? = some x → g (.tup [.int (i : Int), x]) (gwipe γ vs) (mset M1 p (.lst acc)) fun γ2 M2 => t γ2 M2 fun b M3 =>
      (b = true → e γ2 M3 fun y M4 => pureD y = true ∧ ∃ M5, M4 = mset M5 p (.lst acc) ∧ M5 = M1 ∧ Pa (i + 1) (acc ++ [y])) ∧ (b = false → ∃ M5, M3 = mset M5 p (.lst acc) ∧ M5 = M1 ∧ Pa (i + 1) acc))
    (hR : ∀ acc, Pa ds.length acc → R (.lst acc) M1) : vLc (wEnum va) g t e vs γ M R :=
  hva _ (lc_still (j := liE (.lst ds) ds) Pa a0 hl (fun _ _ _ => rfl) (fun i acc d p hp ha hd => by
    obtain ⟨x, h1, rfl⟩ := enumF_get 0 i ds d hd
    rw [Nat.zero_add]
    exact step i acc x p hp ha h1) (fun acc ha => hR acc (by
    have e : (liE (.lst ds) ds).its.length = ds.length := enumF_len 0 ds
    rw [e] at ha; exact ha)))
theorem rngD_succ (lo : Int) (n : Nat) : rngD lo (n + 1) = rngD lo n ++ [.int (lo + (n : Int))] := by
  unfold rngD
  rw [List.range_succ, List.map_append]; rfl
theorem rngD_first (lo : Int) (n : Nat) (h : 0 < n) : atI (rngD lo n) 0 = some (.int lo) := at_nat (i := 0) ((rngD_get _ _ _ _).mpr ⟨h, by simp⟩)
theorem rngD_last (lo : Int) (n : Nat) (h : 0 < n) : atI (rngD lo n) (-1) = some (.int (lo + n - 1)) := by
  have e : ixN (rngD lo n).length (-1) = some (n - 1) := by
    rw [rngD_len]
    unfold ixN
    rw [if_neg (by omega), if_pos (by omega)]
    congr 1
    omega
  unfold atI
  rw [e]
  exact (rngD_get _ _ _ _).mpr ⟨by omega, by congr 1; omega⟩
theorem cmp_rng (m : Nat) (lo : Int) (n : Nat) : cmpL m (rngD lo n) = true := by
  rw [rngD_eq]; exact cmp_ints m _
/-- a list against [] -/
theorem eqG_lstN {f : Bool → Bool} {M : Mem} {R : DR} {ds : List D} (h : cmpD 64 (.lst ds) = true) (h0 : ds = [] → R (.bl (f true)) M) (h1 : ds ≠ [] → R (.bl (f false)) M) : oEqG f (.lst ds) (.lst []) M R := by
  obtain ⟨p, e, s, r⟩ := shaped_of h
  refine eqG_of (p := p) (q := .list []) (toPt_pure e) rfl s (by decide) ?_
  cases ds with
  | nil => cases e; exact h0 rfl
  | cons d ds =>
    unfold toP at e
    cases q : toPL (d :: ds) with
    | none => rw [q] at e; cases e
    | some ps =>
      rw [q] at e
      cases e
      unfold toPL at q
      split at q
      · cases q; exact h1 (by simp)
      · cases q
end Dl
namespace Dl
open PySem L2
/-! ### the head's facts at given addresses -/
def ob3 (as : List Addr) (ex : PySem.W.Frag → Bool) (fa : List He.Fa) (fn : List He5.DefA) (g : Addr → Option Obj) : He.AlD := ob2 ex fa fn (He.frG g as)
def hook3 (as : List Addr) (ex : PySem.W.Frag → Bool) (fa : List He.Fa) (fn : List He5.DefA) : PySem.W.Hook where
  α := He.AlD
  obs := fun s => ob3 as ex fa fn s.heap.get?
  val := fun _ => He5.valA fn
  says := fun _ h => ∃ K : PySem.W.Frag, K.In h ∧ Says2 ex fa fn K
  of := fun _ _ e => ⟨_, He.frG_in, e⟩
  keeps := fun _ _ _ z k => let ⟨K, hK, c⟩ := z; ⟨K, PySem.W.Frag.In.keeps hK k, c⟩
theorem ob3_eq {as : List Addr} {ex : PySem.W.Frag → Bool} {fa : List He.Fa} {fn : List He5.DefA} {g : Addr → Option Obj} {s : Shared} (h : ∀ a, g a = s.heap.get? a) : ob3 as ex fa fn g = (hook3 as ex fa fn).obs s := by
  have e : g = s.heap.get? := funext h
  rw [e] <;> rfl
end Dl
namespace Dl
open PySem L2
/-! ### in a list of plain data -/
section
variable {X : Cx} {C : Addr}
def oInDG (f : Bool → Bool) : DO := fun d t M R => match toP d, toP t with
  | some p, some (.list ps) => PyData.canLayAll0 ps = true ∧ p.canLay0 = true ∧ p.depth = 0 ∧ R (.bl (f (ps.any fun y => PyData.eqv y p))) M
  | _, _ => False
abbrev oInD : DO := oInDG id
abbrev oNotInD : DO := oInDG Bool.not
def rInD (f : Bool → Bool) (K : PySem.W.Frag) : R2 := fun x y H Q => ∃ (p : PyData) (ps : List PyData), Dp K H x p ∧ Dp K H y (.list ps) ∧ PyData.canLayAll0 ps = true ∧ p.canLay0 = true ∧ p.depth = 0 ∧ Q (.bl (f (ps.any fun y => PyData.eqv y p))) H
theorem op_inD {k : Nat} (hr : Room k X.A) : OpR X (compareOp .In) (rInD id X.K) := by
  intro pins s σ H x y v u Q I rx ry h
  obtain ⟨p, ps, hd, he, c1, c2, c3, q⟩ := h
  obtain ⟨as, r1⟩ := Dp.reads I _ x v hd rx
  obtain ⟨bs, r2⟩ := Dp.reads I _ y u he ry
  have hu := hr.units
  exact SeqAt.in_list_reads r2 r1 c1 c2 (by rw [c3, Nat.min_zero]; omega) ⟨.bl _, H, I, rfl, q⟩
theorem op_notInD {k : Nat} (hr : Room k X.A) : OpR X (compareOp .NotIn) (rInD Bool.not X.K) := by
  intro pins s σ H x y v u Q I rx ry h
  obtain ⟨p, ps, hd, he, c1, c2, c3, q⟩ := h
  obtain ⟨as, r1⟩ := Dp.reads I _ x v hd rx
  obtain ⟨bs, r2⟩ := Dp.reads I _ y u he ry
  have hu := hr.units
  exact SeqAt.notIn_list_reads r2 r1 c1 c2 (by rw [c3, Nat.min_zero]; omega) ⟨.bl _, H, I, rfl, q⟩
theorem sndO_inD {G : Gx} {f : Bool → Bool} : SndO G (rInD f G.K) (oInDG f) := fun d e M R H x y Q o i1 i2 h k => by
  unfold oInDG at h
  split at h
  · rename_i p ps h1 h2
    exact ⟨p, ps, toP_ok _ _ _ i1 h1, toP_ok _ _ _ i2 h2, h.1, h.2.1, h.2.2.1, k _ M _ H o is_bl Ext.refl h.2.2.2⟩
  · exact h.elim
theorem c_inD {k : Nat} (hr : Room k X.A) : CmpQ X C .In oInD := ⟨_, op_inD hr, sndO_inD⟩
theorem c_notInD {k : Nat} (hr : Room k X.A) : CmpQ X C .NotIn oNotInD := ⟨_, op_notInD hr, sndO_inD⟩
end
/-- a number or None in [None, k] -/
theorem inD_ni {f : Bool → Bool} {i k : Int} {M : Mem} {R : DR} : oInDG f (.int i) (.lst [.non, .int k]) M R = R (.bl (f (decide (k = i)))) M := by
  have e : oInDG f (.int i) (.lst [.non, .int k]) M R = (PyData.canLayAll0 [.none, .int k] = true ∧ (PyData.int i).canLay0 = true ∧ (PyData.int i).depth = 0 ∧ R (.bl (f ([PyData.none, .int k].any fun y => PyData.eqv y (.int i)))) M) := rfl
  rw [e]
  have h : ([PyData.none, .int k].any fun y => PyData.eqv y (.int i)) = decide (k = i) := by
    rw [List.any_cons, List.any_cons, List.any_nil, Bool.or_false]
    have e1 : PyData.eqv .none (.int i) = false := rfl
    have e2 : PyData.eqv (.int k) (.int i) = decide (k = i) := beq_dec ..
    rw [e1, e2, Bool.false_or]
  rw [h]
  exact propext ⟨fun z => z.2.2.2, fun z => ⟨rfl, rfl, rfl, z⟩⟩
theorem inD_nn {f : Bool → Bool} {k : Int} {M : Mem} {R : DR} : oInDG f .non (.lst [.non, .int k]) M R = R (.bl (f true)) M := by
  have e : oInDG f .non (.lst [.non, .int k]) M R = (PyData.canLayAll0 [.none, .int k] = true ∧ (PyData.none).canLay0 = true ∧ (PyData.none).depth = 0 ∧ R (.bl (f ([PyData.none, .int k].any fun y => PyData.eqv y .none))) M) := rfl
  rw [e]
  have h : ([PyData.none, .int k].any fun y => PyData.eqv y .none) = true := rfl
  rw [h]
  exact propext ⟨fun z => z.2.2.2, fun z => ⟨rfl, rfl, rfl, z⟩⟩
end Dl
namespace Dl
open PySem L2
/-! ### != of two lines: object's own, by __eq__ -/
section
open PySem PySem.Calls PyProof.Rows PySem.W
variable {prog : Program} {w : World} {A : Around} {E : Value → Shared → Prop} {s : Shared} {K : Frag} {x y C f : Addr} {ox oy : Obj} {od od' : Option Obj}
theorem ne_slot {Q : Value → Shared → Prop} (hu : A.units + 1 < cLine) (X : K.In s.heap) (I : InstAt s.heap x ox C od) (hp : plainOver K C = true) (hs : findIn K (.ref C) "__eq__" = some (some (.ref f))) (hf : isFn K (.ref f) = true)
    (h : wpAny (model prog w) A.in1 (call (.ref f) [.ref x, .ref y]) (fun v s' => ∃ b, v = .bool b ∧ Q (.bool (!b)) s') E s) : wpAny (model prog w) A (call (.builtin "object.__ne__") [.ref x, .ref y]) Q E s := by
  obtain ⟨cd, hc, ho⟩ := any_some hp
  have ne : cd.mro.isEmpty = false := by cases q : cd.mro with | nil => rw [q] at ho; cases ho | cons _ _ => rfl
  have sub : Looks (model prog w) s.heap (isInstance (.ref x) (.type "object")) true := I.type.andThen (looks_mroIn X (by unfold mroIn; rw [hc, Option.bind_some, if_neg (by rw [ne]; decide), only_has ho]))
  have FB := PySem.F.cmp_object
  refine wpAny_call (codeAny_call_builtin FB.ne.plain PySem.F.cmpEntry_ne (check_slot PySem.F.cmpKind_ne PySem.F.cmpSplit_ne sub (PySem.F.cmpArgs_ne _ _) ?_))
  unfold Builtin.«object.__ne__»
  repeat (first
    | with_reducible refine wpAny_cRoomFor (A := A.in1) hu ?_
    | (refine wpAny_bind (m := callSpecialIfBound? (.ref x) (Str.ofString "__eq__") [.ref y])
        (ifBound_K X I hs hf (wpAny_mono h (fun r s' hr => by
          obtain ⟨b, rfl, hq⟩ := hr
          repeat (first | exact hq | exact wpAny_pure hq | exact wpAny_truthy_bool hq | (refine wpAny_bind (m := truthy (.bool _)) (wpAny_truthy_bool ?_)) | wp_step)) fun _ _ e => e)))
    | wp_step)
theorem ne_K {Q : Value → Shared → Prop} (hu : A.units + 1 < cLine) (X : K.In s.heap) (I : InstAt s.heap x ox C od) (J : InstAt s.heap y oy C od') (hp : plainOver K C = true)
    (hn : findIn K (.ref C) "__ne__" = some (some (.builtin "object.__ne__"))) (hs : findIn K (.ref C) "__eq__" = some (some (.ref f))) (hf : isFn K (.ref f) = true)
    (h : wpAny (model prog w) A.in1 (call (.ref f) [.ref x, .ref y]) (fun v s' => ∃ b, v = .bool b ∧ Q (.bool (!b)) s') E s) : wpAny (model prog w) A (richCompare .NotEq (.ref x) (.ref y)) Q E s := by
  have FB := PySem.F.cmp_object
  unfold richCompare
  simp only [oneThing_ref]
  refine wpAny_holding (wpAny_bind (wpAny_cRoomFor (Nat.lt_of_succ_lt hu) ?_))
  rw [cmpInfo_NotEq]
  dsimp only
  refine wpAny_bind (I.type.here (wpAny_bind (J.type.here ?_)))
  rw [show (Value.ref C != Value.ref C) = false from by simp]
  simp only [Bool.false_eq_true, if_false]
  refine wpAny_bind (wpAny_pure ?_)
  simp only [Bool.false_eq_true, if_false]
  have one : wpAny (model prog w) A (tryCompare (.ref x) "__ne__" (.ref y)) (fun r s' => ∃ b, r = some (.bool b) ∧ Q (.bool b) s') E s := by
    simp only [tryCompare]
    have call1 : wpAny (model prog w) A (call (.builtin "object.__ne__") [.ref x, .ref y]) (fun v s' => ∃ b, v = .bool b ∧ Q (.bool b) s') E s :=
      ne_slot hu X I hp hs hf (wpAny_mono h (fun v s' hv => by obtain ⟨b, rfl, hq⟩ := hv; exact ⟨b, rfl, _, rfl, hq⟩) fun _ _ e => e)
    have spec : wpAny (model prog w) A (callSpecialIfBound? (.ref x) "__ne__" [.ref y]) (fun r s' => ∃ b, r = some (.bool b) ∧ Q (.bool b) s') E s := by
      simp only [callSpecialIfBound?, bindSpecialIfBound?]
      refine wpAny_holding (wpAny_bind (wpAny_bind (wpAny_bind (I.type.here ((looks_findIn X hn).here ?_)))))
      simp only [FB.ne.bind]
      refine wpAny_bind (wpAny_askSetting (wpAny_ite ?_))
      have fin : wpAny (model prog w) A (call (.builtin "object.__ne__") ([.ref x] ++ [.ref y]) >>= fun v => pure (some v)) (fun r s' => ∃ b, r = some (.bool b) ∧ Q (.bool b) s') E s :=
        wpAny_bind (wpAny_mono call1 (fun v s' h' => wpAny_pure (by obtain ⟨b, rfl, hq⟩ := h'; exact ⟨b, rfl, hq⟩)) fun _ _ h' => h')
      split
      · exact wpAny_bind (wpAny_pure (wpAny_pure fin))
      · exact wpAny_tryCatch (wpAny_bind (wpAny_pure (wpAny_pure fin)))
    refine wpAny_bind (wpAny_mono spec (fun r s' hr => ?_) fun _ _ e => e)
    obtain ⟨b, rfl, hq⟩ := hr
    exact wpAny_pure ⟨b, rfl, hq⟩
  refine wpAny_bind (wpAny_mono one (fun r s' hr => ?_) fun _ _ e => e)
  obtain ⟨b, rfl, hq⟩ := hr
  first | exact wpAny_pure hq | exact wpAny_pure (wpAny_pure hq)
end
structure NeF (K : PySem.W.Frag) (C : Addr) : Prop where
  ne : PySem.W.findIn K (.ref C) "__ne__" = some (some (.builtin "object.__ne__"))
  po : PySem.W.plainOver K C = true
def neB (K : PySem.W.Frag) (C : Addr) : Bool := He.eqO (PySem.W.findIn K (.ref C) "__ne__") (some (some (.builtin "object.__ne__"))) && PySem.W.plainOver K C
theorem neB_ok {K : PySem.W.Frag} {C : Addr} (h : neB K C = true) : NeF K C := ⟨He.eqO_ok (He.ba h).1, (He.ba h).2⟩
section
variable {X : Cx} {C : Addr} {j k : Nat} {S : DSp}
def rNeO (C : Addr) (sp : Sp) : R2 := fun x y H Q => ∃ a dx fs b dy gs, x = .ref a ∧ H a = some (.ins C dx fs) ∧ y = .ref b ∧ H b = some (.ins C dy gs) ∧ sp [x, y] H (fun v H' => ∃ b, v = .bl b ∧ Q (.bl (!b)) H') E0
theorem op_neO {f : Addr} {sp : Sp} (N : NeF X.K C) (hs : PySem.W.findIn X.K (.ref C) "__eq__" = some (some (.ref f))) (hf : PySem.W.isFn X.K (.ref f) = true) (F : FnR X.prog X.w X.K X.mg X.base CX0 k f sp) (hr : Room (k + 1) X.A) : OpR X (compareOp .NotEq) (rNeO C sp) := by
  intro pins s σ H x y v u Q I rx ry h
  obtain ⟨a, dx, fs, b, dy, gs, rfl, ea, rfl, eb, hsp⟩ := h
  obtain rfl : v = Value.ref a := rx
  obtain rfl : u = Value.ref b := ry
  obtain ⟨ox, od, J⟩ := inst_at I ea
  obtain ⟨oy, od', J'⟩ := inst_at I eb
  show wpAny _ _ (PySem.richCompare .NotEq (.ref a) (.ref b)) _ _ _
  refine ne_K (K := X.K) (C := C) (by have := hr.units; omega) I.kIn J J' N.po N.ne hs hf ?_
  refine wpAny_call (codeAny_mono (F X.A.in1 X.stack s H [.ref a, .ref b] [.ref a, .ref b] _ E0 hr.in1 I.env0.in1 (.cons rfl (.cons rfl .nil)) hsp) fun r s' hq => ?_)
  cases r with
  | error e => exact pass0 pins σ H s e s' I hq
  | ok fl =>
    cases fl with
    | ret u =>
      obtain ⟨v, H', I', rv, c, rfl, q⟩ := I.after hq
      obtain rfl : u = .bool c := rv
      exact ⟨c, rfl, .bl (!c), H', I', rfl, q⟩
    | next => exact False.elim hq
    | brk => exact False.elim hq
    | cont => exact False.elim hq
def oNeL (S : DSp) : DO := fun d e M R => isLn d = true ∧ isLn e = true ∧ S [d, e] M (fun d M' => match d with
  | .bl c => R (.bl (!c)) M'
  | _ => False) noX
theorem e_oNeL (S : DSp) (d e : D) (M : Mem) (R : DR) : oNeL S d e M R = (isLn d = true ∧ isLn e = true ∧ S [d, e] M (fun d M' => match d with
  | .bl c => R (.bl (!c)) M'
  | _ => False) noX) := propext Iff.rfl
theorem sndO_neL {G : Gx} : SndO G (rNeO G.C (spD G 2 S)) (oNeL S) := fun d e M R H x y Q o i1 i2 h kk => by
  obtain ⟨h1, h2, h3⟩ := h
  obtain ⟨a, dx, q, ex, hx⟩ := ln_at i1 h1
  obtain ⟨b, dy, q', ey, hy⟩ := ln_at i2 h2
  refine ⟨a, dx, _, b, dy, _, ex, hx, ey, hy, spD_of rfl i1 o (IsL.cons i2 IsL.nil) Ext.refl Ext.refl h3 (fun d M' x H' o' i' e' h' => ?_) _⟩
  cases d with
  | bl c =>
    unfold Is at i'
    exact ⟨c, i', kk _ M' _ H' o' is_bl e' h'⟩
  | _ => exact False.elim h'
theorem c_neL (N : NeF X.K C) (h : UOk X.prog X.w X.K X.mg X.base C k "__eq__" 2 S) (hr : Room j X.A) (hkj : k + 1 ≤ j) : CmpQ X C .NotEq (oNeL S) := by
  obtain ⟨f, fd, ps, hm, hf, F, hb⟩ := h.ex
  exact ⟨_, op_neO N hm hf (raw0 F hb) (hr.mono hkj), sndO_neL⟩
end
end Dl
namespace Dl
open PySem L2
/-! ### < of tuples of numbers -/
def oLtT : DO := fun d e M R => match d, e with
  | .tup xs, .tup ys => (match intsD xs, intsD ys with
    | some ns, some ms => R (.bl (HT.lexLt ns ms)) M
    | _, _ => False)
  | _, _ => False
section
variable {X : Cx} {C : Addr}
theorem sndO_ltT {G : Gx} : SndO G (rLtT G.K) oLtT := fun d e M R H x y Q o i1 i2 h k => by
  unfold oLtT at h
  split at h
  · rename_i xs ys
    split at h
    · rename_i ns ms h1 h2
      unfold Is at i1 i2
      obtain ⟨a, us, ex, _, ha, hl⟩ := i1
      obtain ⟨b, vs, ey, _, hb, hl2⟩ := i2
      rw [intsD_eq h1] at hl
      rw [intsD_eq h2] at hl2
      rw [isL_intsV hl] at ha
      rw [isL_intsV hl2] at hb
      exact ⟨a, b, ns, ms, ex, ey, SqT.of ha, SqT.of hb, k _ M _ H o is_bl Ext.refl h⟩
    · exact h.elim
  · exact h.elim
theorem c_ltT {k : Nat} (hr : Room k X.A) : CmpQ X C .Lt oLtT := ⟨_, op_ltT (by have := hr.units; omega), sndO_ltT⟩
end
theorem f_ltT2 {a b c d : Int} {M : Mem} {R : DR} : oLtT (.tup [.int a, .int b]) (.tup [.int c, .int d]) M R = R (.bl (decide (a < c) || (decide (a = c) && decide (b < d)))) M := by
  have e : oLtT (.tup [.int a, .int b]) (.tup [.int c, .int d]) M R = R (.bl (HT.lexLt [a, b] [c, d])) M := rfl
  rw [e]
  congr 2
  show (if a = c then (if b = d then false else decide (b < d)) else decide (a < c)) = _
  by_cases h : a = c
  · subst h
    by_cases h2 : b = d
    · subst h2; simp
    · simp [h2]
  · simp [h]
/-- for over a range, the body's ends a letter (the kernel stays small) -/
theorem vfor_rng2E {va : DA} {g : DG} {b : DS} {Ed : DEnds} {γ : Gm} {M M1 : Mem} (lo hi : Int) (hva : ∀ F : List D → Mem → Prop, F [.int lo, .int hi] M1 → va γ M F) (W : Nat → Gm → Mem → Prop) (h0 : W 0 γ M1)
    (step : ∀ i γ' M' (E : DEnds), E.nx = W (i + 1) → E.rt = Ed.rt → W i γ' M' → i < (hi - lo).toNat → g (.int (lo + (i : Int))) γ' M' fun γ2 M2 => b E γ2 M2) (hd : ∀ γ' M', W (hi - lo).toNat γ' M' → Ed.nx γ' M') : vFor (wRng2 va) g b Ed γ M :=
  vfor_rng2 lo hi hva W h0 (fun i γ' M' w h => step i γ' M' _ rfl rfl w h) hd
end Dl
namespace Dl
open PySem L2
/-! ### xs += ys, xs an owned list -/
def vAugL (i : Nat) (a : DE) : DS := fun Ed γ M => match gt γ i with
  | some (.own p) => a γ M fun d M1 => (match lstI M1 d, M1 p with
    | some ys, some (.lst xs) => pureL ys = true ∧ xs.length + ys.length ≤ sizeLine ∧ Ed.nx (gset γ i (some (.own p))) (mset M1 p (.lst (xs ++ ys)))
    | _, _ => False)
  | _ => False
theorem e_vAugL (i : Nat) (a : DE) (Ed : DEnds) (γ : Gm) (M : Mem) : vAugL i a Ed γ M = (match gt γ i with
  | some (.own p) => a γ M fun d M1 => (match lstI M1 d, M1 p with
    | some ys, some (.lst xs) => pureL ys = true ∧ xs.length + ys.length ≤ sizeLine ∧ Ed.nx (gset γ i (some (.own p))) (mset M1 p (.lst (xs ++ ys)))
    | _, _ => False)
  | _ => False) := propext Iff.rfl
section
variable {X : Cx} {C : Addr} {e : Expr} {ve : DE} {pos : Pos}
theorem qs_augL {i : Nat} {x : Str} {pos' : Pos} (hN : X.N.Nodup) (he : QE X C e ve) (hi : X.N[i]? = some x := by rfl) (hx : Loc X.env.scope x := by first | exact Or.inl rfl | exact Or.inr rfl) (hf : X.fn x = true ∨ X.env.scope.names.lookup x = some .local := by first | exact .inl rfl | exact .inr rfl | assumption) :
    QS X C (.AugAssign (.Name x pos') .Add e pos) (vAugL i ve) := by
  obtain ⟨t, p, s⟩ := he.ex
  refine ⟨_, ps_aug hN hi hx p (fun pins s σ H x y v u Q I r1 r2 h => iop_ext pins s σ H x y v u Q I r1 r2 h) hf, fun Ed γ M σ H E r l h => ?_⟩
  unfold vAugL at h
  split at h
  · rename_i q g
    obtain ⟨v, h1, h2⟩ := r.sl.get g
    refine ⟨v, h1, s γ M _ σ H _ r h fun d M1 y H1 o1 i1 e1 h3 => ?_⟩
    split at h3
    · rename_i ys xs ey ex
      obtain ⟨pu, hz, hn⟩ := h3
      have j := Is.ext e1 _ _ h2
      unfold Is at j
      obtain ⟨pu2, us, ha, hl⟩ := o1 q _ ex
      obtain ⟨b, ws, rfl, hl2, hb⟩ := lst_at o1 i1 ey
      refine ⟨q, b, us, ws, j.1, rfl, ha, hb, by rw [← hl.len, ← hl2.len]; exact hz, ?_⟩
      have x2 : Ext M1 (mset M1 q (.lst (xs ++ ys))) H1 (upd H1 q (.lst (us ++ ws))) := Ext.put j.2
      refine l.nx _ _ _ _ ⟨((r.sl.ext (e1.trans x2)).set ?_), o1.put j.2 (pureL_append pu2 pu) (hl.append hl2)⟩ (e1.trans x2) hn
      unfold Is
      exact ⟨rfl, by rw [mset_same]; rfl⟩
    · exact h3.elim
  · exact h.elim
end
end Dl
namespace Dl
open PySem L2
/-! ### xs == [] where xs is a list with something in it (of lines, say) -/
def oEqE : DO := fun d e M R => match d, e with
  | .lst (_ :: _), .lst [] => R (.bl false) M
  | _, _ => False
theorem f_eqE {d : D} {ds : List D} {M : Mem} {R : DR} : oEqE (.lst (d :: ds)) (.lst []) M R = R (.bl false) M := rfl
theorem f_eqE2 {ds : List D} {M : Mem} {R : DR} (h : ds ≠ []) : oEqE (.lst ds) (.lst []) M R = R (.bl false) M := by
  cases ds with
  | nil => exact absurd rfl h
  | cons _ _ => rfl
def rEqE : R2 := fun x y H Q => ∃ a b xs, x = .ref a ∧ y = .ref b ∧ xs ≠ [] ∧ H a = some (.lst xs) ∧ H b = some (.lst []) ∧ Q (.bl false) H
section
variable {X : Cx} {C : Addr}
theorem op_eqE (hu : X.A.units < cLine) : OpR X (compareOp .Eq) rEqE := by
  intro pins s σ H x y v u Q I rx ry h
  obtain ⟨a, b, xs, rfl, rfl, ne, ea, eb, q⟩ := h
  obtain rfl : v = Value.ref a := rx
  obtain rfl : u = Value.ref b := ry
  obtain ⟨_, its, n, ra, ya⟩ := (show ObjOk X.prog X.w H s.heap a (.lst xs) from I.hok a _ ea)
  obtain ⟨_, jts, m, rb, yb⟩ := (show ObjOk X.prog X.w H s.heap b (.lst []) from I.hok b _ eb)
  refine SeqAt.eq_list_lengthsAt ⟨_, ya, rfl, _, rfl⟩ ⟨_, yb, rfl, _, rfl⟩ ?_ hu ⟨.bl _, H, I, rfl, q⟩
  have h1 := ra.length
  have h2 := rb.length
  cases xs with
  | nil => exact absurd rfl ne
  | cons z zs => simp at h1 h2 ⊢; omega
theorem sndO_eqE {G : Gx} : SndO G rEqE oEqE := fun d e M R H x y Q o i1 i2 h k => by
  unfold oEqE at h
  split at h
  · unfold Is at i1 i2
    obtain ⟨a, us, ex, _, ha, hl⟩ := i1
    obtain ⟨b, vs, ey, _, hb, hl2⟩ := i2
    have l1 := hl.len
    have l2 := hl2.len
    have ev : vs = [] := by cases vs with
      | nil => rfl
      | cons _ _ => simp at l2
    subst ev
    exact ⟨a, b, us, ex, ey, fun z => by rw [z] at l1; simp at l1, ha, hb, k _ M _ H o is_bl Ext.refl h⟩
  · exact h.elim
theorem c_eqE {k : Nat} (hr : Room k X.A) : CmpQ X C .Eq oEqE := ⟨_, op_eqE (by have := hr.units; omega), sndO_eqE⟩
end
end Dl
namespace Dl
open PySem L2
/-! ### readings that may raise -/
abbrev DEX := Gm → Mem → DR → DX → Prop
abbrev DTX := Gm → Mem → (Bool → Mem → Prop) → DX → Prop
abbrev DAX := Gm → Mem → (List D → Mem → Prop) → DX → Prop
/-- a refusal: what is raised -/
abbrev DSx := List D → Mem → DX → Prop
def XOk (X : Cx) (C : Addr) (M : Mem) (σ : St) (H : Hp) (Xd : DX) : Prop := ∀ M' H' xd cls d, Own ⟨X.K, C⟩ M' H' → XIs ⟨X.K, C⟩ M' H' xd cls d → Ext M M' H H' → Xd xd M' → wX X cls d σ H'
theorem XOk.ext {X : Cx} {C : Addr} {M M1 : Mem} {σ : St} {H H1 : Hp} {Xd : DX} (k : XOk X C M σ H Xd) (e : Ext M M1 H H1) : XOk X C M1 σ H1 Xd := fun M' H' xd cls d o i x h => k M' H' xd cls d o i (e.trans x) h
def SndX (X : Cx) (C : Addr) (t : TE) (v : DEX) : Prop := ∀ (γ : Gm) (M : Mem) (R : DR) (Xd : DX) (σ : St) (H : Hp) (Q : VK), Rel ⟨X.K, C⟩ M γ σ H → v γ M R Xd →
  (∀ d M' x H', Own ⟨X.K, C⟩ M' H' → Is ⟨X.K, C⟩ M' H' d x → Ext M M' H H' → R d M' → Q x H') → XOk X C M σ H Xd → t σ H Q
def SndTX (X : Cx) (C : Addr) (t : TT) (v : DTX) : Prop := ∀ (γ : Gm) (M : Mem) (R : Bool → Mem → Prop) (Xd : DX) (σ : St) (H : Hp) (Q : Bool → Hp → Prop), Rel ⟨X.K, C⟩ M γ σ H → v γ M R Xd →
  (∀ b M' H', Own ⟨X.K, C⟩ M' H' → Ext M M' H H' → R b M' → Q b H') → XOk X C M σ H Xd → t σ H Q
def SndAX (X : Cx) (C : Addr) (t : TA) (v : DAX) : Prop := ∀ (γ : Gm) (M : Mem) (R : List D → Mem → Prop) (Xd : DX) (σ : St) (H : Hp) (Q : List V → Hp → Prop), Rel ⟨X.K, C⟩ M γ σ H → v γ M R Xd →
  (∀ ds M' xs H', Own ⟨X.K, C⟩ M' H' → IsL ⟨X.K, C⟩ M' H' ds xs → Ext M M' H H' → R ds M' → Q xs H') → XOk X C M σ H Xd → t σ H Q
structure QEX (X : Cx) (C : Addr) (e : Expr) (v : DEX) : Prop where
  ex : ∃ t, PE X e t ∧ SndX X C t v
structure QTX (X : Cx) (C : Addr) (e : Expr) (v : DTX) : Prop where
  ex : ∃ t, PT X e t ∧ SndTX X C t v
structure QAX (X : Cx) (C : Addr) (es : List Expr) (v : DAX) : Prop where
  ex : ∃ t, PA X es t ∧ SndAX X C t v
structure QKX (X : Cx) (C : Addr) (kws : List Keyword) (v : DAX) : Prop where
  ex : ∃ t, PK X kws t ∧ SndAX X C t v
def vL (v : DE) : DEX := fun γ M R _ => v γ M R
def tL (v : DT) : DTX := fun γ M R _ => v γ M R
def aL (v : DA) : DAX := fun γ M R _ => v γ M R
section
variable {X : Cx} {C : Addr} {e : Expr} {es : List Expr} {pos : Pos}
theorem QE.x {v : DE} (h : QE X C e v) : QEX X C e (vL v) := let ⟨t, p, s⟩ := h.ex; ⟨t, p, fun γ M R _ σ H Q r hv k _ => s γ M R σ H Q r hv k⟩
theorem QT.x {v : DT} (h : QT X C e v) : QTX X C e (tL v) := let ⟨t, p, s⟩ := h.ex; ⟨t, p, fun γ M R _ σ H Q r hv k _ => s γ M R σ H Q r hv k⟩
theorem QA.x {v : DA} (h : QA X C es v) : QAX X C es (aL v) := let ⟨t, p, s⟩ := h.ex; ⟨t, p, fun γ M R _ σ H Q r hv k _ => s γ M R σ H Q r hv k⟩
theorem QK.x {kws : List Keyword} {v : DA} (h : QK X C kws v) : QKX X C kws (aL v) := let ⟨t, p, s⟩ := h.ex; ⟨t, p, fun γ M R _ σ H Q r hv k _ => s γ M R σ H Q r hv k⟩
def vConsX (a : DEX) (r : DAX) : DAX := fun γ M R Xd => a γ M (fun d M1 => r γ M1 (fun ds M2 => R (d :: ds) M2) Xd) Xd
theorem snd_consX {ta : TE} {tr : TA} {va : DEX} {vr : DAX} (sa : SndX X C ta va) (sr : SndAX X C tr vr) : SndAX X C (tCons ta tr) (vConsX va vr) := fun γ M R Xd σ H Q re h k kx =>
  sa γ M _ Xd σ H _ re h (fun d M1 x H1 o1 i1 e1 h1 => sr γ M1 _ Xd σ H1 _ (re.mk' e1 o1) h1 (fun ds M2 xs H2 o2 i2 e2 h2 =>
    k _ M2 _ H2 o2 (IsL.cons (Is.ext e2 d x i1) i2) (e1.trans e2) h2) (kx.ext e1)) kx
theorem qxa_cons {va : DEX} {vr : DAX} (ha : QEX X C e va) (hr : QAX X C es vr) (hs : starEach (e :: es) X.env = (false, eval e X.env) :: starEach es X.env := by rfl) : QAX X C (e :: es) (vConsX va vr) := by
  obtain ⟨ta, pa, sa⟩ := ha.ex
  obtain ⟨tr, pr, sr⟩ := hr.ex
  exact ⟨_, pa_cons pa pr hs, snd_consX sa sr⟩
end
/-! ### what a def that may raise promises -/
def spX (G : Gx) (n : Nat) (S : DSx) : Sp := fun vs H _ E => ∃ (ds : List D) (M : Mem) (Xd : DX), ds.length = n ∧ IsL G M H ds vs ∧ Own G M H ∧ S ds M Xd ∧
  ∀ xd M' cls d H', Own G M' H' → XIs G M' H' xd cls d → Ext M M' H H' → Xd xd M' → E cls d H'
def spU (G : Gx) (n : Nat) (S : DSp) (Sx : DSx) : Sp := fun vs H Q E => spD G n S vs H Q E ∨ spX G n Sx vs H Q E
abbrev CXp (P : Program) (w : World) : CXT := L2.CX P w
theorem fn_cx {P : Program} {w : World} {K : PySem.W.Frag} {mg : Str → Option Value} {base : Heap} {k : Nat} {f : Addr} {fd : FuncData} {ps : List Str} {sp : Sp} {CX : CXT} (F : FnOk P w K mg base CX0 k f fd ps sp) : FnOk P w K mg base CX k f fd ps sp :=
  ⟨F.len, fun A outer s H args us vs Q E hr he hb hv hs => codeAny_mono (F.run A outer s H args us vs Q E hr he hb hv hs) fun r s' h => by
    cases r with
    | ok fl => cases fl <;> exact h
    | error e => exact False.elim h⟩
/-- right arguments, or a refusal -/
theorem fn_both {P : Program} {w : World} {K : PySem.W.Frag} {mg : Str → Option Value} {base : Heap} {k j : Nat} {f : Addr} {fd : FuncData} {ps : List Str} {G : Gx} {n : Nat} {S : DSp} {Sx : DSx} (F : FnOk P w K mg base CX0 k f fd ps (spD G n S)) (Fx : FnOk P w K mg base (CXp P w) j f fd ps (spX G n Sx)) :
    FnOk P w K mg base (CXp P w) (max k j) f fd ps (spU G n S Sx) :=
  ⟨fun vs H Q E h => h.elim (F.len vs H Q E) (Fx.len vs H Q E), fun A outer s H args us vs Q E hr he hb hv hs => by
    rcases hs with h | h
    · exact (fn_cx F).run A outer s H args us vs Q E (hr.mono (Nat.le_max_left _ _)) he hb hv h
    · exact Fx.run A outer s H args us vs Q E (hr.mono (Nat.le_max_right _ _)) he hb hv h⟩
structure CallX (P : Program) (w : World) (K : PySem.W.Frag) (mg : Str → Option Value) (base : Heap) (C : Addr) (k : Nat) (x : Str) (n : Nat) (S : DSp) (Sx : DSx) (dd : List D) : Prop where
  ex : ∃ (f : Addr) (fd : FuncData) (ps : List Str) (ds : List Value) (dv : List V), mg x = some (.ref f) ∧ PySem.W.keepIn K (.ref f) = true ∧ FnOk P w K mg base (CXp P w) k f fd ps (spU ⟨K, C⟩ n S Sx) ∧ Binds K fd ps ds ∧ Vals dv ds ∧ constL dd = some dv
structure KCallX (P : Program) (w : World) (K : PySem.W.Frag) (mg : Str → Option Value) (base : Heap) (C : Addr) (k : Nat) (x : Str) (n : Nat) (S : DSp) (Sx : DSx) (np : Nat) (ks : List Str) (pick : List D → List D → List D) : Prop where
  ex : ∃ (f : Addr) (fd : FuncData) (ps : List Str) (g : List Value → List Value → List Value) (gV : List V → List V → List V), mg x = some (.ref f) ∧ PySem.W.keepIn K (.ref f) = true ∧ FnOk P w K mg base (CXp P w) k f fd ps (spU ⟨K, C⟩ n S Sx) ∧ KBn K fd ps np ks g gV ∧
    ∀ (M : Mem) (H : Hp) (ds zs : List D) (vs us : List V), IsL ⟨K, C⟩ M H ds vs → IsL ⟨K, C⟩ M H zs us → IsL ⟨K, C⟩ M H (pick ds zs) (gV vs us)
section
variable {X : Cx} {C : Addr} {k j n : Nat} {S : DSp} {Sx : DSx} {dd : List D} {x : Str} {p pos : Pos} {e : Expr} {es : List Expr} {fd : FuncData} {ps : List Str} {f : Addr} {sp : Sp}
/-- a call whose exceptions are wished for where it stands -/
theorem run_fnW {CX : CXT} {pins : List (Addr × Obj)} {σ : St} {H : Hp} {s : Shared} {Q : VK} {E : XK} {args : Args} {ws : List Value} {vs : List V} (F : FnOk X.prog X.w X.K X.mg X.base CX k f fd ps sp) (hr : Room k X.A) (hb : BindsTo s fd args (ps.zip ws)) (r : Vals vs ws)
    (hx : ∀ u s', CX X.stack H s E u s' → X.xe u s') (I : Inv X pins σ H s) (h : sp vs H Q E) : wpAny (model X.prog X.w) X.A (call (.ref f) args.pos args.kw) (EP X pins σ Q) X.xe s := by
  refine wpAny_call (codeAny_mono (F.run X.A X.stack s H args ws vs Q E hr I.env0 hb r h) fun z s' hz => ?_)
  match z, hz with
  | .error u, hz => exact hx u s' hz
  | .ok (.ret u), hz => exact I.after hz
  | .ok .next, hz => exact hz.elim
  | .ok .brk, hz => exact hz.elim
  | .ok .cont, hz => exact hz.elim
def tCallW (X : Cx) (sp : Sp) (dvs : List V) (t : TA) : TE := fun σ H Q => t σ H fun vs H1 => ∃ E : XK, sp (vs ++ dvs) H1 Q E ∧ ∀ cls d H', E cls d H' → wX X cls d σ H'
def tCallWN (X : Cx) (np nk : Nat) (sp : Sp) (gV : List V → List V → List V) (t tk : TA) : TE := fun σ H Q => t σ H fun vs H1 => tk σ H1 fun zs H2 => vs.length = np ∧ zs.length = nk ∧ ∃ E : XK, sp (gV vs zs) H2 Q E ∧ ∀ cls d H', E cls d H' → wX X cls d σ H'
theorem cx_xe {pins : List (Addr × Obj)} {σ : St} {H : Hp} {s : Shared} {E : XK} (I : Inv X pins σ H s) (hW : ∀ cls d H', E cls d H' → wX X cls d σ H') : ∀ u s', CXp X.prog X.w X.stack H s E u s' → X.xe u s' :=
  fun u s' c => takes_wX u s' (XE.of_call I hW c)
theorem pe_callW {ds : List Value} {dvs : List V} {t : TA} (F : FnOk X.prog X.w X.K X.mg X.base (CXp X.prog X.w) k f fd ps sp) (hr : Room k X.A) (hg : Gl X x) (hm : X.mg x = some (.ref f)) (hk : PySem.W.keepIn X.K (.ref f) = true) (hb : Binds X.K fd ps ds) (hd : Vals dvs ds) (ha : PA X (e :: es) t)
    (hdb : (x == ("__debug__" : Str)) = false := by decide) (he : starEach (e :: es) X.env = (false, eval e X.env) :: starEach es X.env := by rfl) (hpl : (backTo pos (starEach es X.env)).any (·.1) = false := by rfl) : PE X (.Call (.Name x p) (e :: es) [] pos) (tCallW X sp dvs t) := by
  refine ⟨fun pins s σ H Q I h => wpAny_Call_Name_kw (ld_glob I hg hm ?_ hdb)⟩
  refine PySem.W.callWith_K (h₀ := X.base) I.ok.mod.kin hk (thn (ha.run pos pins s σ H _ I h) fun us s1 ⟨vs, H1, I1, r, E, hs, hW⟩ => ⟨I1.kIn, ?_⟩) he hpl
  have r2 := r.append hd
  have hl : (us ++ ds).length = ps.length := by rw [← r2.length]; exact F.len _ _ _ _ hs
  exact run_fnW (args := ⟨us, []⟩) F hr (hb s1 us I1.kIn hl) r2 (cx_xe I1 hW) I1 hs
theorem pe_callWN {np : Nat} {kws : List Keyword} {ks : List Str} {g : List Value → List Value → List Value} {gV : List V → List V → List V} {t tk : TA} (F : FnOk X.prog X.w X.K X.mg X.base (CXp X.prog X.w) k f fd ps sp) (hr : Room k X.A) (hg : Gl X x) (hm : X.mg x = some (.ref f)) (hk : PySem.W.keepIn X.K (.ref f) = true) (hb : KBn X.K fd ps np ks g gV)
    (ha : PA X (e :: es) t) (hkw : PK X kws tk) (hall : (backToKw pos (keywordEach kws X.env)).all (·.1.isSome) = true := by rfl) (hks : (backToKw pos (keywordEach kws X.env)).filterMap (·.1) = ks := by rfl)
    (hdb : (x == ("__debug__" : Str)) = false := by decide) (he : starEach (e :: es) X.env = (false, eval e X.env) :: starEach es X.env := by rfl)
    (hpl : ((backTo pos (starEach (e :: es) X.env)).any (·.1) || (backToKw pos (keywordEach kws X.env)).any (·.1.isNone)) = false := by rfl) : PE X (.Call (.Name x p) (e :: es) kws pos) (tCallWN X np ks.length sp gV t tk) := by
  refine ⟨fun pins s σ H Q I h => wpAny_Call_Name_kw (ld_glob I hg hm ?_ hdb)⟩
  refine PySem.W.callWith_KW (h₀ := X.base) I.ok.mod.kin hk hall (thn (ha.run pos pins s σ H _ I h) fun us s1 ⟨vs, H1, I1, r, q⟩ => thn (hkw.run pos pins s1 σ H1 _ I1 q) fun ws s2 ⟨zs, H2, I2, rz, l1, l2, E, hs, hW⟩ => ⟨I2.kIn, ?_⟩) hpl he
  rw [hks]
  have r2 := hb.rel r rz
  exact run_fnW (args := ⟨us, ks.zip ws⟩) F hr (hb.to s2 us ws I2.kIn (by rw [← r.length]; exact l1) (by rw [← rz.length]; exact l2)) r2 (cx_xe I2 hW) I2 hs
/-- the reading of such a call -/
def vCallX (n : Nat) (S : DSp) (Sx : DSx) (dd : List D) (a : DAX) : DEX := fun γ M R Xd => a γ M (fun ds M1 => (ds ++ dd).length = n ∧ (S (ds ++ dd) M1 R noX ∨ Sx (ds ++ dd) M1 Xd)) Xd
def vCallKX (n np nk : Nat) (S : DSp) (Sx : DSx) (pick : List D → List D → List D) (a kw : DAX) : DEX := fun γ M R Xd => a γ M (fun ds M1 => kw γ M1 (fun zs M2 => ds.length = np ∧ zs.length = nk ∧ (pick ds zs).length = n ∧ (S (pick ds zs) M2 R noX ∨ Sx (pick ds zs) M2 Xd)) Xd) Xd
/-- the wish where the call stands -/
def wishD (X : Cx) (C : Addr) (M : Mem) (H : Hp) (Xd : DX) : XK := fun cls d H' => ∃ xd M', Own ⟨X.K, C⟩ M' H' ∧ XIs ⟨X.K, C⟩ M' H' xd cls d ∧ Ext M M' H H' ∧ Xd xd M'
theorem spU_of {M : Mem} {R : DR} {Xd : DX} {ds : List D} {xs : List V} {σ : St} {H : Hp} {Q : VK} (hl : ds.length = n) (o : Own ⟨X.K, C⟩ M H) (i : IsL ⟨X.K, C⟩ M H ds xs) (hs : S ds M R noX ∨ Sx ds M Xd)
    (k : ∀ d M' x H', Own ⟨X.K, C⟩ M' H' → Is ⟨X.K, C⟩ M' H' d x → Ext M M' H H' → R d M' → Q x H') (kx : XOk X C M σ H Xd) : ∃ E : XK, spU ⟨X.K, C⟩ n S Sx xs H Q E ∧ ∀ cls d H', E cls d H' → wX X cls d σ H' := by
  refine ⟨wishD X C M H Xd, ?_, fun cls d H' ⟨xd, M', o', i', e', h'⟩ => kx M' H' xd cls d o' i' e' h'⟩
  rcases hs with h | h
  · exact .inl ⟨ds, M, R, hl, i, o, h, k⟩
  · exact .inr ⟨ds, M, Xd, hl, i, o, h, fun xd M' cls d H' o' i' e' h' => ⟨xd, M', o', i', e', h'⟩⟩
theorem qxc {va : DAX} (h : CallX X.prog X.w X.K X.mg X.base C k x n S Sx dd) (hr : Room j X.A) (hkj : k ≤ j) (ha : QAX X C (e :: es) va) (hg : Gl X x := by rfl) (hdb : (x == ("__debug__" : Str)) = false := by decide) (he : starEach (e :: es) X.env = (false, eval e X.env) :: starEach es X.env := by rfl) (hpl : (backTo pos (starEach es X.env)).any (·.1) = false := by rfl) :
    QEX X C (.Call (.Name x p) (e :: es) [] pos) (vCallX n S Sx dd va) := by
  obtain ⟨f, fd, ps, ds, dv, h1, h2, h3, h4, h5, h6⟩ := h.ex
  obtain ⟨ta, pa, sa⟩ := ha.ex
  refine ⟨_, pe_callW h3 (hr.mono hkj) hg h1 h2 h4 h5 pa hdb he hpl, fun γ M R Xd σ H Q re hv kk kx => sa γ M _ Xd σ H _ re hv (fun as M1 xs H1 o1 i1 e1 hh => ?_) kx⟩
  exact spU_of hh.1 o1 (i1.append (constL_ok h6)) hh.2 (fun d M2 y H2 o2 i2 e2 hr2 => kk d M2 y H2 o2 i2 (e1.trans e2) hr2) (kx.ext e1)
theorem qxck {np : Nat} {kws : List Keyword} {ks : List Str} {pick : List D → List D → List D} {va vk : DAX} (h : KCallX X.prog X.w X.K X.mg X.base C k x n S Sx np ks pick) (hr : Room j X.A) (hkj : k ≤ j) (ha : QAX X C (e :: es) va) (hkw : QKX X C kws vk) (hg : Gl X x := by rfl) (hall : (backToKw pos (keywordEach kws X.env)).all (·.1.isSome) = true := by rfl) (hks : (backToKw pos (keywordEach kws X.env)).filterMap (·.1) = ks := by rfl)
    (hdb : (x == ("__debug__" : Str)) = false := by decide) (he : starEach (e :: es) X.env = (false, eval e X.env) :: starEach es X.env := by rfl)
    (hpl : ((backTo pos (starEach (e :: es) X.env)).any (·.1) || (backToKw pos (keywordEach kws X.env)).any (·.1.isNone)) = false := by rfl) :
    QEX X C (.Call (.Name x p) (e :: es) kws pos) (vCallKX n np ks.length S Sx pick va vk) := by
  obtain ⟨f, fd, ps, g, gV, h1, h2, h3, h4, h5⟩ := h.ex
  obtain ⟨ta, pa, sa⟩ := ha.ex
  obtain ⟨tk, pk, sk⟩ := hkw.ex
  refine ⟨_, pe_callWN h3 (hr.mono hkj) hg h1 h2 h4 pa pk hall hks hdb he hpl, fun γ M R Xd σ H Q re hv kk kx => sa γ M _ Xd σ H _ re hv (fun as M1 xs H1 o1 i1 e1 hh => sk γ M1 _ Xd σ H1 _ (re.mk' e1 o1) hh (fun zs M2 us H2 o2 i2 e2 h2 => ?_) (kx.ext e1)) kx⟩
  obtain ⟨l1, l2, l3, hs⟩ := h2
  have i1' := IsL.ext e2 as xs i1
  refine ⟨by rw [← i1.len]; exact l1, by rw [← i2.len]; exact l2, ?_⟩
  exact spU_of l3 o2 (h5 M2 H2 as zs xs us i1' i2) hs (fun d M3 y H3 o3 i3 e3 h3 => kk d M3 y H3 o3 i3 ((e1.trans e2).trans e3) h3) (kx.ext (e1.trans e2))
end
/-! ### statements and tests with such readings -/
section
variable {X : Cx} {C : Addr} {e : Expr} {pos : Pos} {ve : DEX}
def vDropX (a : DEX) : DS := fun Ed γ M => a γ M (fun _ M1 => Ed.nx γ M1) (Ed.xx γ)
def vAsgX (a : DEX) (g : DG) : DS := fun Ed γ M => a γ M (fun d M1 => g d γ M1 Ed.nx) (Ed.xx γ)
def vRetX (a : DEX) : DS := fun Ed γ M => a γ M Ed.rt (Ed.xx γ)
def vIfX (c : DTX) (a b : DS) : DS := fun Ed γ M => c γ M (fun k M1 => (k = true → a Ed γ M1) ∧ (k = false → b Ed γ M1)) (Ed.xx γ)
theorem Lk.xok {M : Mem} {γ : Gm} {σ : St} {H : Hp} {Ed : DEnds} {E : Ends} (l : Lk X C M H Ed E) (r : Rel ⟨X.K, C⟩ M γ σ H) : XOk X C M σ H (Ed.xx γ) := fun M' H' xd cls d o i x h => l.xx γ M' σ H' xd cls d (r.mk' x o) i x h
theorem qs_exprX (he : QEX X C e ve) (hs : swapsWith e none pos.line X.env = pure false := by rfl) : QS X C (.Expr e pos) (vDropX ve) :=
  let ⟨_, p, s⟩ := he.ex; ⟨_, ps_expr p hs, fun Ed γ M σ H E r l h => s γ M _ (Ed.xx γ) σ H _ r h (fun d M1 x H1 o1 i1 e1 h1 => l.nx γ M1 σ H1 (r.mk' e1 o1) e1 h1) (l.xok r)⟩
theorem qs_retX (he : QEX X C e ve) : QS X C (.Return (some e) pos) (vRetX ve) :=
  let ⟨_, p, s⟩ := he.ex; ⟨_, ps_ret p, fun Ed γ M σ H E r l h => s γ M _ (Ed.xx γ) σ H _ r h (fun d M1 x H1 o1 i1 e1 h1 => l.rt d M1 x H1 o1 i1 e1 h1) (l.xok r)⟩
theorem snd_asgX {ta : TE} {tg : TG} {g : DG} (sa : SndX X C ta ve) (sg : SndG ⟨X.K, C⟩ tg g) : SndS X C (tAsg ta tg) (vAsgX ve g) := fun Ed γ M σ H E r l h =>
  sa γ M _ (Ed.xx γ) σ H _ r h (fun d M1 x H1 o1 i1 e1 h1 => sg d γ M1 _ σ H1 x _ (r.mk' e1 o1) i1 h1 fun γ' M' σ' H' r' e' h' => l.nx γ' M' σ' H' r' (e1.trans e') h') (l.xok r)
theorem qs_asgX {tg : Expr} {g : DG} (he : QEX X C e ve) (hg : QG X C tg g) (hs : swapsWithSole [tg] e pos.line X.env = pure false := by rfl) (hw : swappedStores [tg] e X.env = pure none := by rfl)
    (h1 : (assignEach [tg] X.env).map (·.2) = [assign tg X.env] := by rfl) : QS X C (.Assign [tg] e pos) (vAsgX ve g) :=
  let ⟨_, p, s⟩ := he.ex; let ⟨_, p2, s2⟩ := hg.ex; ⟨_, ps_asg p p2 hs hw h1, snd_asgX s s2⟩
theorem qs_setX {i : Nat} {x : Str} {pos' : Pos} (hN : X.N.Nodup) (he : QEX X C e ve) (hi : X.N[i]? = some x := by rfl) (hx : Loc X.env.scope x := by first | exact Or.inl rfl | exact Or.inr rfl) (hs : swapsWith e (some (.Name x pos')) pos.line X.env = pure false := by rfl) (hf : X.fn x = true ∨ X.env.scope.names.lookup x = some .local := by first | exact .inl rfl | exact .inr rfl | assumption) :
    QS X C (.Assign [.Name x pos'] e pos) (vAsgX ve (dName i)) :=
  let ⟨_, p, s⟩ := he.ex; ⟨_, ps_set hN hi hx p hs hf, snd_asgX s sndG_name⟩
theorem qs_ifX {c : Expr} {a b : List Stmt} {vc : DTX} {v u : DS} (hc : QTX X C c vc) (ha : QSs X C a v) (hb : QSs X C b u) : QS X C (.If c a b pos) (vIfX vc v u) := by
  obtain ⟨tc, pc, sc⟩ := hc.ex
  obtain ⟨ta, pa, sa⟩ := ha.ex
  obtain ⟨tb, pb, sb⟩ := hb.ex
  refine ⟨_, ps_if pc pa pb, fun Ed γ M σ H E r l h => sc γ M _ (Ed.xx γ) σ H _ r h (fun k M1 H1 o1 e1 h1 => ?_) (l.xok r)⟩
  cases k with
  | true => rw [if_pos rfl]; exact sa Ed γ M1 σ H1 E (r.mk' e1 o1) (l.ext e1) (h1.1 rfl)
  | false => rw [if_neg Bool.false_ne_true]; exact sb Ed γ M1 σ H1 E (r.mk' e1 o1) (l.ext e1) (h1.2 rfl)
/-- a value as a test -/
def vBX (v : DEX) : DTX := fun γ M R Xd => v γ M (fun d M1 => match d with
  | .bl b => R b M1
  | _ => False) Xd
def vIsNX (f : Bool → Bool) (a : DEX) : DEX := fun γ M R Xd => a γ M (fun d M1 => R (.bl (f (isNon d))) M1) Xd
def vNotX (a : DTX) : DTX := fun γ M R Xd => a γ M (fun k M1 => R (!k) M1) Xd
theorem snd_tBX {t : TE} {v : DEX} (s : SndX X C t v) : SndTX X C (tB t) (vBX v) := fun γ M R Xd σ H Q re h k kx => s γ M _ Xd σ H _ re h (fun d M1 x H1 o1 i1 e1 h1 => by
  cases d with
  | bl b => unfold Is at i1; exact ⟨b, i1, k b M1 H1 o1 e1 h1⟩
  | _ => exact False.elim h1) kx
theorem qxt_val (h : QEX X C e ve) (he : ∀ whole, isTrue e X.env whole = (do let v ← whole; standAt e.pos; holding [v] (truthy v)) := by intro _; rfl) : QTX X C e (vBX ve) := by
  obtain ⟨ta, pa, sa⟩ := h.ex
  exact ⟨_, pt_val pa he, snd_tBX sa⟩
theorem qxt_notN {j p} (h : QEX X C e ve) : QTX X C (.Compare e [.IsNot] [.Constant .none j p] pos) (vBX (vIsNX Bool.not ve)) := by
  obtain ⟨ta, pa, sa⟩ := h.ex
  exact ⟨_, pt_cmp (pc_notN pa), snd_tBX fun γ M R Xd σ H Q re h k kx => sa γ M _ Xd σ H _ re h (fun d M1 x H1 o1 i1 e1 h1 => k _ M1 _ H1 o1 (by unfold Is; rw [isNon_ok i1]) e1 h1) kx⟩
theorem qxt_isN {j p} (h : QEX X C e ve) : QTX X C (.Compare e [.Is] [.Constant .none j p] pos) (vBX (vIsNX id ve)) := by
  obtain ⟨ta, pa, sa⟩ := h.ex
  exact ⟨_, pt_cmp (pc_isN pa), snd_tBX fun γ M R Xd σ H Q re h k kx => sa γ M _ Xd σ H _ re h (fun d M1 x H1 o1 i1 e1 h1 => k _ M1 _ H1 o1 (by unfold Is; rw [isNon_ok i1]; rfl) e1 h1) kx⟩
theorem qxt_not {vt : DTX} (h : QTX X C e vt) : QTX X C (.UnaryOp .Not e pos) (vNotX vt) := by
  obtain ⟨t, p, s⟩ := h.ex
  exact ⟨_, pt_not p, fun γ M R Xd σ H Q re h k kx => s γ M _ Xd σ H _ re h (fun b M1 H1 o1 e1 h1 => k _ M1 H1 o1 e1 h1) kx⟩
end
/-! ### a def that refuses -/
/-- what it owned is dropped -/
def finX (M : Mem) (Xd : DX) : DX := fun xd M' => ∃ M2, Sub M2 M' ∧ (∀ a, (M a).isSome = true → (M2 a).isSome = true) ∧ pureD xd.fld = true ∧ Xd xd M2
theorem finX_pure {M : Mem} {Xd : DX} {xd : XD} (h : Xd xd M) (p : pureD xd.fld = true := by rfl) : finX M Xd xd M := ⟨M, Sub.refl, fun _ h => h, p, h⟩
theorem finX_drop {M : Mem} {Xd : DX} {xd : XD} {q : Addr} {m : MO} (hq : M q = none) (h : Xd xd M) (p : pureD xd.fld = true := by rfl) : finX M Xd xd (mset M q m) := ⟨M, Sub.set hq, fun _ h => h, p, h⟩
def xEnds (M : Mem) (Xd : DX) : DEnds := { nx := fun _ _ => False, rt := fun _ _ => False, xx := fun _ xd M' => finX M Xd xd M' }
theorem xis_sub {G : Gx} {M M' : Mem} {H : Hp} {xd : XD} {cls : Value} {d : Option Addr} (s : Sub M M') (p : pureD xd.fld = true) (h : XIs G M' H xd cls d) : XIs G M H xd cls d := by
  obtain ⟨h1, h2, h3⟩ := h
  refine ⟨h1, h2, ?_⟩
  rcases h3 with h3 | ⟨n, dd, u, e, m, hd, i⟩
  · exact .inl h3
  · exact .inr ⟨n, dd, u, e, s.non m, hd, Is.sub (fun a ha => s.non ha) _ _ p i⟩
section
variable {P : Program} {w : World} {K : PySem.W.Frag} {mg : Str → Option Value} {base : Heap} {x qual : Str} {params : Arguments} {body : List Stmt} {scope : Scope} {dvs : List V} {kws : List (Str × V)} {f : Addr} {fd : FuncData}
theorem fn_okX {N ps : List Str} {k : Nat} {C : Addr} {S : DSx} {v : DS} (n m : Nat) (F : FunD K x qual params body scope dvs kws f fd) (SC : FnScope N ps scope)
    (hq : ∀ (cdv : Value) (A : Around) (outer : List Env) (s : Shared) (H : Hp) (E : XK), Room k (A.deeper (PyProof.Rows.envOfC qual scope s.heap.objs.size f cdv)) → QSs (cxOf (CXp P w) P w K mg base N qual scope f cdv A outer s H E) C body v)
    (hv : ∀ ds M Xd, ds.length = m → S ds M Xd → v (xEnds M Xd) (st0 n ds) M) (hn : N.length = n := by rfl) (hm : ps.length = m := by rfl) : FnOk P w K mg base (CXp P w) (k + 1) f fd ps (spX ⟨K, C⟩ m S) := by
  subst hn; subst hm
  have hpl : ps.length ≤ N.length := by have := congrArg List.length SC.pre; rw [List.length_take] at this; omega
  obtain ⟨oc, od, dV, kV, doc, pm, an, cdv, ct, osl, e, lk, hcd, _⟩ := F.ex
  subst e
  refine fn_of lk hcd SC (fun vs H Q E h => ?_) (fun A outer s H vs Q E hr h => ?_)
  · obtain ⟨ds, M, Xd, hl, il, _⟩ := h
    rw [← il.len]; exact hl
  · obtain ⟨ds, M, Xd, hl, il, ow, hs, k2⟩ := h
    obtain ⟨t, pt, st⟩ := (hq cdv A outer s H E hr).ex
    refine ⟨t, pt, st (xEnds M Xd) (st0 N.length ds) M _ H _ ⟨st0_rel il (by omega), ow⟩ ⟨fun _ _ _ _ _ _ z => z.elim, fun _ _ _ _ _ _ _ z => z.elim, fun _ _ _ _ _ _ z => z.elim, fun _ _ _ _ _ _ z => z.elim, ?_⟩ (hv ds M Xd hl hs)⟩
    intro γ M' σ H' xd cls d r i e' hf
    obtain ⟨M2, sb, dm, pu, hx⟩ := hf
    exact wX_of (takes_of rfl rfl rfl rfl) (k2 xd M2 cls d H' (r.ow.sub sb) (xis_sub sb pu i) (e'.sub sb dm) hx)
end
end Dl
namespace Dl
open PySem L2
/-! ### raise C(e), C a class of the program with a field -/
/-- its __init__: self.f = the argument -/
def spEx (C : Addr) (f : Str) : Sp := fun vs H Q _ => ∃ (a : Addr) (y : V), vs = [V.ref a, y] ∧ H a = some (exo a C none) ∧ ∀ dd, H dd = none → dd ≠ a → Q .non (upd (upd H dd (exd dd [(f, y)])) a (exo a C (some dd)))
structure ExK (P : Program) (w : World) (K : PySem.W.Frag) (mg : Str → Option Value) (base : Heap) (k : Nat) (c : Str) : Prop where
  ex : ∃ (fI : Addr) (fd : FuncData) (ps : List Str), mg c = some (.ref (He.ga K c)) ∧ OexC K (He.ga K c) ∧ PySem.W.findIn K (.ref (He.ga K c)) "__init__" = some (some (.ref fI)) ∧ PySem.W.typeIn K (.ref fI) = some (.type "function") ∧
    FnOk P w K mg base CX0 k fI fd ps (spEx (He.ga K c) (fldN c)) ∧ Binds K fd ps [] ∧ PySem.W.exmOne K (.ref (He.ga K c)) (.ref (He.ga K "FourTestsError")) = some true ∧ noFld c = false
def vRaise (c : Str) (a : DA) : DS := fun Ed γ M => a γ M fun ds M1 => match ds with
  | [d] => Ed.xx γ ⟨c, d⟩ M1
  | _ => False
section
variable {X : Cx} {C : Addr} {j k : Nat} {c : Str} {e : Expr} {va : DA} {p pos pos' : Pos}
theorem del_upd {H : Hp} {a dd : Addr} {o u z : HO} {w : HO} (ha : H a = none) (hne : dd ≠ a) : upd (del (upd (upd (upd H a o) dd u) a z) a) dd w = upd H dd w := by
  funext b
  by_cases h1 : b = dd
  · rw [h1, upd_same, upd_same]
  · rw [upd_ne h1, upd_ne h1]
    by_cases h2 : b = a
    · rw [h2, del_same, ha]
    · rw [del_ne h2, upd_ne h2, upd_ne h1, upd_ne h2]
theorem qs_raise (h : ExK X.prog X.w X.K X.mg X.base k c) (hr : Room j X.A) (hkj : k + 1 ≤ j) (ha : QA X C [e] va) (hg : Gl X c := by rfl) (hc : X.calm = true := by rfl) (hdb : (c == ("__debug__" : Str)) = false := by decide)
    (he : starEach [e] X.env = (false, eval e X.env) :: starEach [] X.env := by rfl) (hpl : (backTo pos (starEach [] X.env)).any (·.1) = false := by rfl) : QS X C (.Raise (some (.Call (.Name c p) [e] [] pos)) none pos') (vRaise c va) := by
  obtain ⟨fI, fd, ps, h1, h2, h3, h4, h5, h6, h7, h8⟩ := h.ex
  obtain ⟨ta, pa, sa⟩ := ha.ex
  refine ⟨_, ps_raise hc takes_wX (pmk_oex h2 h3 h4 h5 (hr.mono hkj) h6 .nil pass0 hg h1 pa hdb he hpl), fun Ed γ M σ H E r l hv => sa γ M _ σ H _ r hv fun ds M1 xs H1 o1 i1 e1 hx => ?_⟩
  match ds, hx with
  | [d], hx =>
    obtain ⟨y, ey, iy⟩ := isL1 i1
    subst ey
    refine ⟨by show 1 ≤ 1000; decide, fun a na => ⟨a, y, rfl, upd_same, fun dd hdd hne => ⟨rfl, dd, [(fldN c, y)], upd_same, ?_, ?_, ?_⟩⟩⟩
    · rw [upd_ne hne, upd_same]
    · rw [upd_ne hne] at hdd; exact hdd
    · rw [upd_ne hne] at hdd
      rw [del_upd na hne]
      refine l.xx γ M1 σ _ ⟨c, d⟩ _ _ (r.mk' (e1.trans (Ext.new hdd)) (o1.new hdd)) ⟨rfl, h7, .inr ⟨h8, dd, y, rfl, o1.fresh hdd, upd_same, Is.ext (Ext.new hdd) d y iy⟩⟩ (e1.trans (Ext.new hdd)) hx
end
/-! ### an exception that was caught is tracked on -/
theorem exH_ok {P : Program} {w : World} {H : Hp} {h : Heap} {C a : Addr} {d : Option Addr} {oe : Obj} {vs : Array Value} (e : h.get? a = some oe) (z : Zc (.ref C) d oe) (hd : oe.data = .fields vs) : ObjOk P w H h a (exH C d a) :=
  ⟨⟨oe, vs, e, z, hd⟩, ⟨oe, e⟩, fun _ _ ⟨o, v, q, r⟩ k => ⟨o, v, k o q, r⟩⟩
section
variable {X : Cx} {pins : List (Addr × Obj)} {σ : St} {H : Hp} {s : Shared}
theorem inv_adopt {C a : Addr} {d : Option Addr} {oe : Obj} {vs : Array Value} (I : Inv X ((a, oe) :: pins) σ H s) (n0 : X.s_0.heap.get? a = none) (np : ∀ p ∈ X.pn ++ pins, p.1 ≠ a) (z : Zc (.ref C) d oe) (hd : oe.data = .fields vs) :
    Inv X pins σ (upd H a (exH C d a)) s := by
  obtain ⟨ha, na, nL, nF, nc⟩ := I.pin (a, oe) (List.mem_append_right _ List.mem_cons_self)
  have ne0 : ∀ b o, X.s_0.heap.get? b = some o → b ≠ a := fun b o q y => by rw [y, n0] at q; cases q
  have neH : ∀ {b : Addr} {u : HO}, H b = some u → b ≠ a := fun {b u} q y => by rw [y, na] at q; cases q
  have B := I.base
  refine ⟨I.ok, I.os, I.bare, ⟨B.keep, B.slot, fun b o q n hx => ?_, B.there, fun b xs q => ?_, fun b o u q => ?_, fun b ps q => ?_⟩, I.loc, I.cell, ?_, fun x c q => ?_, fun p hp => ?_, fun b u q => ?_, I.len⟩
  · rw [upd_ne (ne0 b o q)]; exact B.free b o q n hx
  · have y := B.tups b xs q
    rw [upd_ne (neH y)]; exact y
  · have y := B.frzs b o u q
    rw [upd_ne (neH y)]; exact y
  · obtain ⟨more, y⟩ := B.tbls b ps q
    exact ⟨more, by rw [upd_ne (neH y)]; exact y⟩
  · rw [upd_ne (fun y => nL y.symm)]; exact I.free
  · have nca : c ≠ a := fun y => by
      obtain ⟨v, o, ho, hdd⟩ := I.cell x c q
      rw [y, ha] at ho; cases ho
      exact nc _ hdd
    rw [upd_ne nca]; exact I.freeC x c q
  · have hp2 : p ∈ X.pn ++ (a, oe) :: pins := by
      rcases List.mem_append.mp hp with y | y
      · exact List.mem_append_left _ y
      · exact List.mem_append_right _ (List.mem_cons_of_mem _ y)
    obtain ⟨q1, q2, q3⟩ := I.pin p hp2
    exact ⟨q1, by rw [upd_ne (np p hp)]; exact q2, q3⟩
  · by_cases hb : b = a
    · subst hb
      rw [upd_same] at q
      cases q
      exact exH_ok ha z hd
    · rw [upd_ne hb] at q
      exact (I.hok b u q).stay (fun _ _ _ y => y) (fun c y => by rw [upd_ne (neH y)]; exact y) fun c xs y => by rw [upd_ne (neH y)]; exact y
/-- the suite's pin is kept on -/
theorem inv_unsuite {a : Addr} {oe : Obj} {pn' : List (Addr × Obj)} (I : Inv (X.suite a ((a, oe) :: (X.pn ++ pins))) pn' σ H s) (ok : X.Ok) : Inv X ((a, oe) :: pins) σ H s :=
  ⟨ok, I.os, I.bare, I.base, I.loc, I.cell, I.free, I.freeC, fun p hp => I.pin p (List.mem_append_left _ (by
    rcases List.mem_append.mp hp with y | y
    · exact List.mem_cons_of_mem _ (List.mem_append_left _ y)
    · rcases List.mem_cons.mp y with y | y
      · rw [y]; exact List.mem_cons_self
      · exact List.mem_cons_of_mem _ (List.mem_append_right _ y))), I.hok, I.len⟩
end
/-! ### try: body, except FourTestsError as n: y = n -/
/-- the caught exception as a datum -/
def xdD (x : XD) : D := if noFld x.cls then .exn0 x.cls else .exn x.cls x.fld
def vTry (i j : Nat) (b : DS) : DS := fun Ed γ M => b { Ed with xx := fun γ' xd M' => Ed.nx (gset (gset (gset γ' i (some (xdD xd))) j (some (xdD xd))) i none) M' } γ M
/-- a statement's reading by data, as a reading -/
def liftS (X : Cx) (C : Addr) (v : DS) : TS := fun E σ H => ∃ (Ed : DEnds) (γ : Gm) (M : Mem), Rel ⟨X.K, C⟩ M γ σ H ∧ Lk X C M H Ed E ∧ v Ed γ M
theorem xis_is {G : Gx} {M : Mem} {H : Hp} {xd : XD} {cls : Value} {d : Option Addr} {a : Addr} (h : XIs G M H xd cls d) (o : Own G M H) (na : H a = none) : Is G M (upd H a (exH (He.ga G.K xd.cls) d a)) (xdD xd) (.ref a) := by
  obtain ⟨h1, h2, h3⟩ := h
  have ma := o.fresh na
  rcases h3 with ⟨n, e⟩ | ⟨n, dd, u, e, m, hd, i⟩
  · unfold xdD
    rw [if_pos n, e]
    unfold Is
    exact ⟨a, rfl, ma, upd_same⟩
  · unfold xdD
    rw [if_neg (by rw [n]; decide), e]
    unfold Is
    exact ⟨a, dd, u, rfl, ma, upd_same, m, by rw [upd_ne (ne_of_none hd na)]; exact hd, Is.ext (Ext.new na) _ _ i⟩
section
variable {X : Cx} {C : Addr} {x n y : Str} {i j : Nat} {body : List Stmt} {np pn1 pn2 pa pos pos' : Pos} {vb : DS}
theorem qs_try (hN : X.N.Nodup) (hm : X.mg x = some (.ref (He.ga X.K "FourTestsError"))) (hb : ∀ (pn : List (Addr × Obj)) (xe : Value → Shared → Prop), PassesOwn (model X.prog X.w) X.A X.env xe → QSs (X.tr pn xe) C body vb) (hi : X.N[i]? = some n := by rfl) (hln : X.env.kindOf n = some .local := by rfl) (hj : X.N[j]? = some y := by rfl) (hlj : X.env.kindOf y = some .local := by rfl) (hg : Gl X x := by rfl)
    (hs : X.stack = X.env :: X.outer := by rfl) (hf : X.env.frame = some X.env.locals := by rfl) (hex : X.ex = [] := by rfl) (hdb : (x == ("__debug__" : Str)) = false := by decide) (hdn : (n == ("__debug__" : Str)) = false := by decide) (hcn : (n == ("__classdict__" : Str)) = false := by decide)
    (hsw : ∀ (a : Addr) (pn : List (Addr × Obj)), swapsWith (.Name n pn1) (some (.Name y pn2)) pa.line (X.suite a pn).env = pure false := by intro _ _; rfl) :
    QS X C (.Try body [.ExceptHandler (some (.Name x np)) (some n) [.Assign [.Name y pn2] (.Name n pn1) pa] pos'] [] [] pos) (vTry i j vb) := by
  refine ⟨liftS X C (vTry i j vb), ⟨fun pins s σ H E I h => ?_⟩, fun Ed γ M σ H E r l h => ⟨Ed, γ, M, r, l, h⟩⟩
  obtain ⟨Ed, γ, M, r, l, h⟩ := h
  have ok := I.ok
  have hfr : X.A.frames = some (X.env :: X.outer) := by rw [ok.frames, hs]
  refine wpAny_Try_except ?_
  obtain ⟨xe, hxe⟩ : ∃ xe : Value → Shared → Prop, xe = fun e s₁ => wpAny (model X.prog X.w) X.A (noteFrame e X.env) (fun _ s₂ => wpAny (model X.prog X.w) X.A (setFlight e none) (fun _ s₃ => wpAny (model X.prog X.w) X.A (handleBy e X.env [.ExceptHandler (some (.Name x np)) (some n) [.Assign [.Name y pn2] (.Name n pn1) pa] pos']) (SP X pins E) X.xe s₃) X.xe s₂) X.xe s₁ := ⟨_, rfl⟩
  have hpo : PassesOwn (model X.prog X.w) X.A X.env xe := by rw [hxe]; exact PassesOwn.looking
  obtain ⟨tb, pb, sb⟩ := (hb (X.pn ++ pins) xe hpo).ex
  have lk : Lk (X.tr (X.pn ++ pins) xe) C M H { Ed with xx := fun γ' xd M' => Ed.nx (gset (gset (gset γ' i (some (xdD xd))) j (some (xdD xd))) i none) M' } E := by
    refine ⟨l.nx, l.rt, l.bk, l.ct, ?_⟩
    intro γ' M' σ' H' xd cls d r' xi ex hnx u s' a B sI pins' eu I' nb up sky na os ag
    have J : Inv X pins σ' H' sI := I'.ofTry ok
    have ecls : cls = .ref (He.ga X.K xd.cls) := xi.1
    have sky' : Sky B (X.env :: X.outer) a (Zc cls d) X.env.locals s'.heap := by rw [← hs]; exact sky
    subst eu
    show xe (.ref a) s'
    rw [hxe]
    show wpAny _ X.A (noteFrame (.ref a) X.env) _ _ _
    refine Sky.land Zc.steady hfr hf sky' fun h3 fl3 up3 => ?_
    have J3 : Inv X pins σ' H' { s' with heap := h3 } := J.landed nb fl3.1 (up.trans up3) os ag
    obtain ⟨oe3, vs3, he3, hz3, hd3⟩ := fl3.there
    have nfr : a ∉ frs (X.env :: X.outer) := fun hm2 => by
      obtain ⟨_, o2, e2, hnf⟩ := fl3.2.2.1.mem hm2
      rw [he3] at e2; cases e2
      exact hnf _ hd3
    have nL : a ≠ X.env.locals := fun z => nfr (List.mem_filterMap.mpr ⟨X.env, List.mem_cons_self, by rw [hf, z]⟩)
    have nF : a ∉ X.fs := fun hm2 => by
      obtain ⟨v, hv, q⟩ := List.mem_filterMap.mp hm2
      exact nfr (List.mem_filterMap.mpr ⟨v, List.mem_cons_of_mem _ hv, q⟩)
    have nB : B.get? a = none := fl3.2.1
    have nI : sI.heap.get? a = none := by
      cases q : sI.heap.get? a with
      | none => rfl
      | some o =>
        have z := nb a o q (by rw [hs]; exact nfr)
        rw [nB] at z; cases z
    have n0 : X.s_0.heap.get? a = none := by
      cases q : X.s_0.heap.get? a with
      | none => rfl
      | some o =>
        obtain ⟨o2, z⟩ := J.base.there a o q (by rw [hex]; exact fun z => nomatch z)
        rw [nI] at z; cases z
    have npn : ∀ p ∈ X.pn ++ pins, p.1 ≠ a := fun p hp z => by
      obtain ⟨q, _⟩ := J.pin p hp
      rw [z, nI] at q; cases q
    have S3 := J3.suite he3 hd3 na nL nF
    refine wpAny_handleBy_cons (codeAny_handlers_test ?_) (by intro q; cases q)
    have LT : PySem.W.Looks (model X.prog X.w) h3 (typeOf (.ref a)) cls := fun A Q E2 s2 k q => wpAny_typeOf_ref (k _ _ he3) (by rw [hz3.1]; exact q)
    have LM := PySem.W.exm_one (M := model X.prog X.w) (J3.kIn) LT xi.2.1
    refine ld_glob (X := X.suite a ((a, oe3) :: (X.pn ++ pins))) S3 hg hm (LM.here ?_) hdb
    refine codeAny_handlers_suite_as ?_
    refine HandSPX.lands_againZ fl3 fun h4 fl4 up4 => ?_
    have J4 : Inv X pins σ' H' { s' with heap := h4 } := J.landed nb fl4.1 ((up.trans up3).trans up4) os ag
    obtain ⟨oe4, vs4, he4, hz4, hd4⟩ := fl4.there
    have S4 := J4.suite he4 hd4 na nL nF
    refine store_ok (X := X.suite a ((a, oe4) :: (X.pn ++ pins))) (v := .ref a) S4 hN hi (.inl hln) rfl (fun s5 S5 => ?_) (.inr hln)
    have hlen : i < σ'.length := by rw [J.len]; exact (List.getElem?_eq_some_iff.mp hi).1
    refine wpAny_mono ((pss_one (ps_set (X := X.suite a ((a, oe4) :: (X.pn ++ pins))) (pos := pa) hN hj (.inl hlj) (pe_var (pos := pn1) hi (.inl hln) hdn hcn) (hsw a _) (.inr hlj))).run [] s5 _ H'
      { nx := fun σ2 H2 => σ2 = (σ'.set i (some (.ref a))).set j (some (.ref a)) ∧ H2 = H', rt := fun _ _ => False } S5 ⟨.ref a, by rw [List.getElem?_set_self hlen], rfl, rfl⟩) (fun f s6 hsp => ?_) (fun _ _ z => False.elim z)
    cases f with
    | next =>
      obtain ⟨σ6, H6, S6, e1, e2⟩ := hsp
      rw [e1, e2] at S6
      refine gone_ok (inv_unsuite S6 ok) hN hi hln fun s7 J7 => ?_
      have Z4 : Zc (.ref (He.ga X.K xd.cls)) d oe4 := by rw [← ecls]; exact hz4
      have J8 := inv_adopt J7 n0 npn Z4 hd4
      have isd := xis_is xi r'.ow na
      have xnew : Ext M' M' H' (upd H' a (exH (He.ga X.K xd.cls) d a)) := Ext.new na
      refine ⟨_, _, J8, l.nx _ M' _ _ ⟨?_, r'.ow.new na⟩ (ex.trans xnew) hnx⟩
      exact SlR.unset ((SlR.set (SlR.set (r'.sl.ext xnew) isd) isd))
    | ret u => obtain ⟨_, _, _, _, _, z⟩ := hsp; exact z.elim
    | brk => obtain ⟨_, _, _, z⟩ := hsp; exact z.elim
    | cont => obtain ⟨_, _, _, z⟩ := hsp; exact z.elim
  refine wpAny_mono (pb.run [] s σ H E (I.toTry _) (sb _ γ M σ H E r lk h)) (fun f s1 hsp => ?_) (fun e s1 he => by
    have he2 : xe e s1 := he
    rw [hxe] at he2
    exact he2)
  cases f with
  | next =>
    obtain ⟨σ1, H1, I1, q⟩ := hsp
    exact wpAny_execs_nil ⟨σ1, H1, I1.ofTry ok, q⟩
  | ret u =>
    obtain ⟨v, σ1, H1, I1, ru, q⟩ := hsp
    exact ⟨v, σ1, H1, I1.ofTry ok, ru, q⟩
  | brk =>
    obtain ⟨σ1, H1, I1, q⟩ := hsp
    exact ⟨σ1, H1, I1.ofTry ok, q⟩
  | cont =>
    obtain ⟨σ1, H1, I1, q⟩ := hsp
    exact ⟨σ1, H1, I1.ofTry ok, q⟩
end
end Dl
namespace Dl
open PySem PySem.W PySem.Calls PyProof.Rows
/-! ### an own exception's __init__: super().__init__(x); self.x = x -/
section
variable {P : Program} {w : World} {A : Around} {E : Value → Shared → Prop}
/-- the bound ValueError.__init__ called -/
theorem call_mw {hp : Heap} {g : Array GenState} {d : Drawn} {t : Nat} {os : OsState} {nm q : Str} {C N x m t0 : Addr} {bs bm : List Value} {hdct : Bool} {sn : List Str} {sub : List Value} {ab : Bool} {col : Option Bool} {dd : Option Addr} {k0 k1 k2 k3 k5 : Option Value} {u : Value} {Q : Value → Shared → Prop}
    (hC : hp.get? C = some (excClassObj nm q C N bs bm hdct sn sub ab col dd k0 k1 k2 k3 k5 "ValueError.__new__")) (hx : hp.get? x = some (excObj C t0 none .none)) (hm : hp.get? m = some (kxs_mw "ValueError.__init__" x))
    (hq : ∀ h' t1, (∀ b o, b ≠ x → hp.get? b = some o → h'.get? b = some o) → h'.get? x = some (excObj C t1 none .none) → Q .none ⟨h', g, d, t, os⟩) : wpAny (model P w) A (call (.ref m) [u]) Q E ⟨hp, g, d, t, os⟩ := by
  refine wpAny_call (codeAny_of_tree ?_)
  show wpAny _ A.in1 (callAny (.ref m) ⟨[u], []⟩) _ _ _
  simp only [callAny]
  refine wpAny_bind (wpAny_load hm ?_)
  simp only [show (Value.type "method-wrapper" == Value.type "method" || Value.type "method-wrapper" == Value.type "builtin_function_or_method" || Value.type "method-wrapper" == Value.type "method-wrapper") = true by decide, if_true]
  refine KFB.if_so (by decide) (wpAny_bind (check_bound_init F.excBase_ValueError.toExcCallFacts hC hx rfl ?_))
  refine wpAny_bind (wpAny_pure (wpAny_pure ⟨plainId_quiet F.excBase_ValueError.init.plain _, codeAny_builtin F.excBase_ValueError.initEntry ?_⟩))
  exact exc_init_tree (cls := .ref C) (t0 := t0) (dv := none) (c2 := .none) (c3 := .none) (b4 := .bool false) hx (by show 1 ≤ sizeLine; decide) fun h' k e _ => hq h' hp.objs.size k e
/-- such a method-wrapper called with one written argument -/
theorem callWith_mw {M : Model} {env : Env} {e : Expr} {pos : Pos} {m x : Addr} {i : String} {s : Shared} {Q : Value → Shared → Prop} (hpl : (backTo pos (starEach [e] env)).any (·.1) = false) (he : starEach [e] env = (false, eval e env) :: starEach [] env)
    (h : wpAny M A (spliced (backTo pos (starEach [e] env))) (fun vs s₁ => KxsAt i m x s₁.heap ∧ wpAny M A (call (.ref m) vs) Q E s₁) E s) : wpAny M A (callWith pos (.ref m) [] (backTo pos (starEach [e] env)) []) Q E s := by
  refine kxs_callWith (i := i) (x := x) hpl ?_
  rw [he] at h ⊢
  exact evalArgs_plain h
end
/-- what must be known of the class and its __init__ -/
structure ExI (P : Program) (K : Frag) (mg : Str → Option Value) (C fI : Addr) (qual : Str) (params : Arguments) (body : List Stmt) (scope : Scope) (f : Str) : Prop where
  fn : ∃ (oc : Value) (od : Option Addr) (dV kV doc pm : Value) (an : Option Addr) (ct : Value) (cda cc : Addr) (osl : Array (Option Value)), K.lookup fI = some ⟨oc, od, .func (ksFn "__init__" qual params body scope dV kV doc pm an (.ref cda) ct cc), osl⟩ ∧ codeIn K (.ref cda) qual = true ∧
    (∃ (c1 : Value) (d1 : Option Addr) (vs : Array Value) (s1 : Array (Option Value)) (tf : Tok), K.lookup cda = some ⟨c1, d1, .fields vs, s1⟩ ∧ vs[2]? = some (.str P.main.file tf)) ∧ (∃ (c2 : Value) (d2 : Option Addr) (s2 : Array (Option Value)), K.lookup cc = some ⟨c2, d2, .cell (some (.ref C)), s2⟩)
  top : (P.main.scope.names.lookup ("super" : Str)).isSome = false
  sup : mg "super" = none
  oex : L2.OexC K C
  sub : mroIn K C (.ref C) = some true
  ve : subIn K (.ref C) (.type "ValueError") = some true
  par : ∃ cd, clsIn K C = some cd ∧ alongIn K "__init__" ((cd.mro.dropWhile (· != .ref C)).drop 1) = some (some (.builtin "ValueError.__init__"))
  no3 : nsIn K cStatics "thirdparty.any" = some none
  fld : findIn K (.ref C) f = some none
  body_ : ∃ p0 p1 p2 p3 p4 p5 p6 p7 p8 p9, body = [.Expr (.Call (.Attribute (.Call (.Name "super" p0) [] [] p1) "__init__" p2) [.Name f p3] [] p4) p5, .Assign [.Attribute (.Name "self" p6) f p7] (.Name f p8) p9] ∧
    ∀ env : Env, ∃ pl : Sem Bool, eval (.Call (.Attribute (.Call (.Name "super" p0) [] [] p1) "__init__" p2) [.Name f p3] [] p4) env = (do
      let ov ← attributeBase (.Call (.Name "super" p0) [] [] p1) "__init__" env (eval (.Call (.Name "super" p0) [] [] p1) env)
      standAt p2.atName
      let (g, first) ← holding [ov] (getMethod ov "__init__" pl)
      callWith p4 g first (backTo p4 (starEach [.Name f p3] env)) [])
  head : (params.posonlyargs ++ params.args).head?.map (·.arg) = some ("self" : Str)
  sc1 : scope.names.lookup ("self" : Str) = some NameKind.local
  sc2 : scope.names.lookup f = some NameKind.local
  sc3 : scope.names.lookup ("super" : Str) = some NameKind.globalImplicit
  sc4 : scope.names.lookup ("__class__" : Str) = some NameKind.free
  cell : ∀ x ∈ scope.names, x.2 ≠ .cell
  flags : scope.isCoroutine = false ∧ scope.isGenerator = false ∧ scope.kind = .function
  names : (f == ("self" : Str)) = false ∧ (f == ("__debug__" : Str)) = false ∧ (f == ("__classdict__" : Str)) = false
section
variable {P : Program} {w : World} {A : Around} {K : Frag} {mg : Str → Option Value} {C fI x t0 : Addr} {qual f : Str} {params : Arguments} {body : List Stmt} {scope : Scope} {R : Result → Shared → Prop}
theorem exinit_run {args : Args} {u : Value} {hp : Heap} {g : Array GenState} {d : Drawn} {t : Nat} {os : OsState} {fd : FuncData} (T : ExI P K mg C fI qual params body scope f) (hf : ∃ oc od osl, K.lookup fI = some ⟨oc, od, .func fd, osl⟩) (hd : A.depth < recursionLimit) (nx : K.lookup x = none) (X : K.In hp) (nl : hp.NoLimit) (G : hp.Ns mainGlobals mg) (B : ∃ mb, hp.Ns builtinsNs mb ∧ ∀ y : Str, y ≠ "__name__" → mb y = bootBuiltins y)
    (hb : BindsTo ⟨hp, g, d, t, os⟩ fd args [("self", .ref x), (f, u)]) (hx : hp.get? x = some (excObj C t0 none .none))
    (hq : ∀ h' t' dx t1, (∀ b o, b ≠ x → hp.get? b = some o → h'.get? b = some o) → hp.objs.size ≤ dx → dx ≠ x → h'.get? x = some (excObj C t1 (some dx) .none) → h'.Ns1 dx (fun y => if y = f then some u else none) → R (.ok (.ret .none)) ⟨h', g, d, t', os⟩) :
    codeAny (model P w) A (.call (.ref fI) args) R ⟨hp, g, d, t, os⟩ := by
  obtain ⟨oc, od, dV, kV, doc, pm, an, ct, cda, cc, osl, lk, hcd, ⟨c1, d1, vs, s1, tf, lkc, hvs⟩, ⟨c2, d2, s2, lkl⟩⟩ := T.fn
  obtain ⟨oc', od', osl', lk'⟩ := hf
  rw [lk] at lk'
  cases lk'
  obtain ⟨p0, p1, p2, p3, p4, p5, p6, p7, p8, p9, eb, hmc⟩ := T.body_
  obtain ⟨fl1, fl2, fl3⟩ := T.flags
  obtain ⟨cd, hcl, hal⟩ := T.par
  obtain ⟨nf1, nf2, nf3⟩ := T.names
  obtain ⟨nm, q, N, bs, bm, sn, sub, ab, col, dd, k0, k1, k2, k3, k5, hC, hbm⟩ := T.oex.cls
  obtain ⟨mb, Gb, hmb⟩ := B
  have hlt := Heap.lt_size hx
  refine ks_codeAny_call_defAt (body := body) (binds := [("self", .ref x), (f, u)]) hd (X _ _ lk) rfl nl (codeRec_of X hcd) rfl hb T.cell (fun y hy => ?_) (fun h1 hns hk1 => ?_) fl1 fl2 fl3
  · simp only [List.mem_cons, List.mem_nil_iff, or_false] at hy
    rcases hy with rfl | rfl
    · exact T.sc1
    · exact T.sc2
  subst eb
  have X1 : K.In h1 := X.keeps hk1
  obtain ⟨ar, har, harg⟩ : ∃ ar, (params.posonlyargs ++ params.args).head? = some ar ∧ ar.arg = ("self" : Str) := by
    have z := T.head
    cases q : (params.posonlyargs ++ params.args).head? with
    | none => rw [q] at z; cases z
    | some ar => rw [q] at z; exact ⟨ar, rfl, Option.some.inj z⟩
  have vself : (fun y => List.lookup y ([("self", .ref x), (f, u)] : List (Str × Value)).reverse) ("self" : Str) = some (.ref x) := by
    show List.lookup ("self" : Str) [(f, u), ("self", .ref x)] = _
    rw [List.lookup_cons, show (("self" : Str) == f) = false by rw [Bool.beq_comm]; exact nf1]
    rfl
  have vf : (fun y => List.lookup y ([("self", .ref x), (f, u)] : List (Str × Value)).reverse) f = some u := by
    show List.lookup f [(f, u), ("self", .ref x)] = _
    rw [List.lookup_cons, beq_self_eq_true]
  have G1 := Heap.Ns.at G fun o e => hk1 _ o e
  have Gb1 := Heap.Ns.at Gb fun o e => hk1 _ o e
  have hC1 := X1 _ _ hC
  have hx1 := hk1 _ _ hx
  have hint : ∀ fd : FuncData, fd.scope = scope → ∀ L a, interactive (callEnv fd L a) = false := fun fd e L a => by
    show ((fd.scope.kind == .module) && _) = false
    rw [e, fl3]
    rfl
  refine ks_wpAt_execs_cons (ks_wpAt_Expr_any ?_ (hint _ rfl _ _))
  obtain ⟨env, henv⟩ : ∃ env, env = callEnv (ksFn "__init__" qual params [.Expr (.Call (.Attribute (.Call (.Name "super" p0) [] [] p1) "__init__" p2) [.Name f p3] [] p4) p5, .Assign [.Attribute (.Name "self" p6) f p7] (.Name f p8) p9] scope dV kV doc pm an (.ref cda) ct cc) hp.objs.size fI := ⟨_, rfl⟩
  have e1 : env.scope = scope := by rw [henv]; rfl
  have e2 : env.locals = hp.objs.size := by rw [henv]; rfl
  have e3 : env.cells = ([(("__class__" : Str), cc)] : List (Str × Addr)) := by rw [henv]; rfl
  have kS : env.kindOf "self" = some .local := by show env.scope.names.lookup _ = _; rw [e1]; exact T.sc1
  have kF : env.kindOf f = some .local := by show env.scope.names.lookup _ = _; rw [e1]; exact T.sc2
  have kU : env.kindOf "super" = some .globalImplicit := by show env.scope.names.lookup _ = _; rw [e1]; exact T.sc3
  have kC : env.kindOf "__class__" = some .free := by show env.scope.names.lookup _ = _; rw [e1]; exact T.sc4
  have kK : env.scope.kind = .function := by rw [e1]; exact fl3
  rw [← henv]
  obtain ⟨pl, hev⟩ := hmc env
  refine ks_wpAt_MethodCall (pl := pl) ?_ hev
  refine ks_wpAt_super_base (f := fI) (cc := cda) kU kC rfl (by rw [henv]; rfl) (X1 _ _ lk) rfl har (by rw [henv]; rfl) (X1 _ _ lkc) rfl hvs (beq_self_eq_true _) T.top ?_
  refine ks_loadName_global kK kU (loadGlobal_builtin (by rw [henv]; exact G1) T.sup (by rw [henv]; exact Gb1) ((hmb _ (by decide)).trans PyProof.Rows.Boot.super) ⟨rfl, ?_⟩)
  refine wpAny_loadName_free kK kC (by rw [e3]; rfl) ⟨_, X1 _ _ lkl, rfl⟩ ?_
  rw [harg]
  refine wpAny_loadName_local kK kS (by rw [e2]; exact hns) vself ?_
  have hCd : (excClassObj nm q C N bs bm true sn sub ab col dd k0 k1 k2 k3 k5 "ValueError.__new__").data = .cls cd := by
    unfold clsIn at hcl
    rw [hC] at hcl
    exact congrArg Data.cls (Option.some.inj hcl)
  refine ks_wpAny_isType_cls hC1 hCd ⟨rfl, ?_⟩
  refine ks_wpAny_call_super hC1 hCd hx1 rfl (fun c z => by cases z) (looks_mroIn X1 T.sub) fun h2 eso k2 => ?_
  have X2 : K.In h2 := X1.keeps k2
  have hx2 := k2 _ _ hx1
  have hC2 := k2 _ _ hC1
  have I2 : InstAt h2 x (excObj C t0 none .none) C none := ⟨hx2, rfl, rfl, trivial⟩
  have Lm : Looks (model P w) h2 (mroOf (.ref C)) cd.mro := (looks_clsIn X2 hcl).andThen .now
  have Lv : Looks (model P w) h2 (isInstance (.ref x) (.type "ValueError")) true := I2.type.andThen (looks_subIn X2 T.ve)
  refine kxs_getMethod kxs_ValueError eso (looks_opaque X2 T.no3) Lm rfl X2 hal Lv (ks_ne X2 I2 hcl) rfl ?_
  have k3' : ∀ b o, h2.get? b = some o → (h2.push (kxs_mw "ValueError.__init__" x)).get? b = some o := fun b o e => Heap.get?_push_of_some _ e
  have ns3 : (h2.push (kxs_mw "ValueError.__init__" x)).Ns hp.objs.size (fun y => List.lookup y ([("self", .ref x), (f, u)] : List (Str × Value)).reverse) := Heap.Ns.at hns fun o e => k3' _ _ (k2 _ _ e)
  have hstar : ∀ e : Expr, e = .Name f p3 → starEach [e] env = (false, eval e env) :: starEach [] env := fun e z => by subst z; rfl
  refine callWith_mw (i := "ValueError.__init__") (x := x) (by rfl) (hstar _ rfl) ?_
  refine spliced_cons ?_
  refine wpAny_Name (wpAny_loadName_local kK kF (by rw [e2]; exact ns3) vf ?_) nf2
  refine spliced_nil ⟨Heap.get?_push_at rfl rfl, ?_⟩
  refine call_mw (k3' _ _ hC2) (k3' _ _ hx2) (Heap.get?_push_at rfl rfl) fun h4 t1 k4 hx4 => ?_
  have X4 : K.In h4 := fun b o e => by
    have z := k3' _ _ (X2 b o e)
    exact k4 b o (fun hb => by rw [hb, nx] at e; cases e) z
  have ns4 : h4.Ns hp.objs.size (fun y => List.lookup y ([("self", .ref x), (f, u)] : List (Str × Value)).reverse) := Heap.Ns.at ns3 fun o e => k4 _ _ (Nat.ne_of_gt hlt) e
  refine ks_wpAt_execs_cons (ks_wpAt_Assign_Attr ?_ (by rfl))
  refine wpAt_of_wpAny (wpAny_Name (wpAny_loadName_local kK kF (by rw [e2]; exact ns4) vf ?_) nf2)
  refine wpAny_Name (wpAny_loadName_local kK kS (by rw [e2]; exact ns4) vself ?_) (by decide)
  refine set_plain X4 (ox := excObj C t1 none .none) (od := none) ⟨hx4, rfl, rfl, trivial⟩ T.oex.sa ?_
  have hmro : HandSPX.refsVE cd.mro = true := by
    have z : ({ name := nm, bases := bs, mro := .ref C :: bm, ns := N, qualname := q, hasDict := true, slotNames := sn, subclasses := sub, abstract := ab, collection := col, hasDel := false } : ClassData) = cd := Data.cls.inj hCd
    rw [← z]; exact hbm
  have hdc : cd.hasDict = true := by
    have z : ({ name := nm, bases := bs, mro := .ref C :: bm, ns := N, qualname := q, hasDict := true, slotNames := sn, subclasses := sub, abstract := ab, collection := col, hasDel := false } : ClassData) = cd := Data.cls.inj hCd
    rw [← z]
  refine HandSPX.exc_osa X4 hx4 hcl hmro hdc T.fld fun h5 t5 dx k5' dn dne hx5 hn5 => ?_
  refine wpAt_of_wpAny (wpAny_execs_nil ?_)
  have hL : hp.objs.size < dx := by
    obtain ⟨o, es, ep, ho, _⟩ := ns4
    exact Nat.lt_of_lt_of_le (Heap.lt_size ho) dn
  exact hq h5 _ dx t1 (fun b o hb e => k5' b o hb (k4 b o hb (k3' b o (k2 b o (hk1 b o e))))) (Nat.le_of_lt hL) dne hx5 hn5
end
end Dl
namespace Dl
open PySem L2
/-- .. as a def's promise -/
theorem fn_exinit {P : Program} {w : World} {K : PySem.W.Frag} {mg : Str → Option Value} {base : Heap} {k : Nat} {C fI : Addr} {qual f : Str} {params : Arguments} {body : List Stmt} {scope : Scope} {fd : FuncData} (T : ExI P K mg C fI qual params body scope f) (hf : ∃ oc od osl, K.lookup fI = some ⟨oc, od, .func fd, osl⟩) : FnOk P w K mg base CX0 (k + 1) fI fd ["self", f] (spEx C f) := by
  refine ⟨fun vs H Q E h => ?_, fun A outer s H args us vs Q E hr e0 hb r h => ?_⟩
  · obtain ⟨a, y, e, _⟩ := h
    rw [e]; rfl
  · obtain ⟨a, y, ev, ea, hq⟩ := h
    subst ev
    cases r with
    | @cons _ u1 _ ur r1 rr =>
      cases rr with
      | @cons _ u _ ur2 ry rr2 =>
        cases rr2
        obtain rfl : u1 = Value.ref a := r1
        obtain ⟨t0, ho⟩ := exo_at e0.hok ea
        have nb : base.get? a = none := by
          cases q : base.get? a with
          | none => rfl
          | some o =>
            have z := (e0.bs a o q).2
            rw [ea] at z; cases z
        have kin : K.In s.heap := e0.mod.kin.keeps fun b o e => (e0.bs b o e).1
        have nx : K.lookup a = none := by
          cases q : K.lookup a with
          | none => rfl
          | some o =>
            have z := e0.mod.kin a o q
            rw [nb] at z; cases z
        have G : s.heap.Ns mainGlobals mg := Heap.Ns.at e0.mod.glob fun o e => (e0.bs _ o e).1
        obtain ⟨mb, Gb, hmb⟩ := e0.mod.blt
        have Gb2 : s.heap.Ns builtinsNs mb := Heap.Ns.at Gb fun o e => (e0.bs _ o e).1
        have nl : s.heap.NoLimit := e0.mod.nolimit.keeps fun b o e => (e0.bs b o e).1
        obtain ⟨hp, g, d, t, os⟩ := s
        refine exinit_run T hf hr.depth nx kin nl G ⟨mb, Gb2, hmb⟩ hb ho fun h' t' dx t1 kk dn dne hx hn => ?_
        have hnd : H dx = none := e0.hok.fresh dn
        have lt : ∀ {b : Addr} {o : Obj}, hp.get? b = some o → b ≠ dx := fun {b o} q => Nat.ne_of_lt (Nat.lt_of_lt_of_le (Heap.lt_size q) dn)
        have nea : ∀ {b : Addr}, H b = none → b ≠ a := fun {b} n z => by rw [z, ea] at n; cases n
        refine ⟨.non, upd (upd H dx (exd dx [(f, y)])) a (exo a C (some dx)), rfl, e0.bare, ⟨fun b o q n _ _ => kk b o (nea n) q, fun b o q n _ _ => ⟨o.slots, kk b o (nea n) q⟩, fun b o q n _ => ?_, fun b o q _ => ?_, fun b xs q => ?_, fun b o v q => ?_, fun b ps q => ?_⟩, fun b o q => ?_, rfl, hq dx hnd dne⟩
        · rw [upd_ne (nea n), upd_ne (lt q)]; exact n
        · by_cases hba : b = a
          · rw [hba]; exact ⟨_, hx⟩
          · exact ⟨o, kk b o hba q⟩
        · rw [upd_ne (at_ne ea q exo_tup), upd_ne (ne_of_none q hnd)]; exact q
        · rw [upd_ne (at_ne ea q exo_frz), upd_ne (ne_of_none q hnd)]; exact q
        · exact ⟨#[], by rw [upd_ne (at_ne ea q exo_tbl), upd_ne (ne_of_none q hnd), q]; simp⟩
        · by_cases hba : b = a
          · subst hba
            rw [upd_same] at q
            cases q
            exact exo_ok hx
          · rw [upd_ne hba] at q
            by_cases hbd : b = dx
            · subst hbd
              rw [upd_same] at q
              cases q
              refine exd_ok hn fun g2 => ?_
              exact relO_put (fs := []) (mA := fun _ => none) ry (fun _ => True.intro) g2
            · rw [upd_ne hbd] at q
              refine (e0.hok b o q).stay (fun c v hc z => kk c v ?_ z) (fun c hc => ?_) fun c xs hc => ?_
              · rcases hc with hc | hc
                · rw [hc]; exact hba
                · exact at_ne ea hc exo_own
              · rw [upd_ne (at_ne ea hc exo_own), upd_ne (ne_of_none hc hnd)]; exact hc
              · rw [upd_ne (at_ne ea hc exo_tup), upd_ne (ne_of_none hc hnd)]; exact hc
end Dl
namespace Dl
open PySem PySem.W PySem.Calls PyProof.Rows
/-! ### isinstance of a caught exception, its field -/
section
variable {prog : Program} {w : World} {A : Around} {E : Value → Shared → Prop} {s : Shared} {K : Frag} {x D : Addr} {ox : Obj} {od : Option Obj}
/-- e.__class__ -/
theorem exc_class {Q : Option Value → Shared → Prop} (T : L2.ExcC K D) (X : K.In s.heap) (I : InstAt s.heap x ox D od) (h : Q (some (.ref D)) { s with toks := s.toks + 1 }) : wpAny (model prog w) A (getAttr? (.ref x) "__class__") Q E s := by
  obtain ⟨cd, hcd, _⟩ := any_some T.hd
  have hfo : findObj K D od "__class__" = some (.bind (.builtin "getset_descriptor.__get__") (.builtin "object.__class__")) := by
    unfold findObj
    rw [hcd, Option.bind_some, T.ha, Option.bind_some]
    simp [T.hn, T.ht]
  obtain ⟨hp, g, d, t, os⟩ := s
  have M0 := I.type (M := model prog w)
  have M1 := looks_findIn (M := model prog w) X T.hg
  have M2 := looks_findIn (M := model prog w) X T.hk
  have M3 := looks_find (M := model prog w) X I hfo
  have Ms : Looks (model prog w) hp (isInstance (.ref x) (.type "BaseException")) true := M0.andThen (looks_subIn X T.hs)
  have nb : (Value.builtin "BaseException.__getattribute__" == Value.builtin "object.__getattribute__") = false := by decide +kernel
  unfold getAttr? getAttrBy? getAttrBy
  refine wpAny_bind (wpAny_mkText (wpAny_bind (wpAny_attempt (wpAny_holding (wpAny_bind (M0.at (wpAny_bind (M1.at ?_))))))))
  show wpAny _ _ (if (onTheHeap (Value.ref D) && Value.builtin "BaseException.__getattribute__" == Value.builtin "object.__getattribute__") = true then _ else _) _ _ _
  rw [if_neg (by rw [nb]; simp)]
  unfold getAttrByItsOwn hookBefore
  refine wpAny_bind ?_
  rw [if_pos (by rfl)]
  refine M2.at (wpAny_bind (wpAny_attempt (wpAny_holding ?_)))
  unfold callGetattribute
  rw [if_neg (show ¬ ((false && onTheHeap (Value.builtin "BaseException.__getattribute__")) = true) by decide)]
  unfold boundAndCalled
  rw [PySem.F.excAttr_ValueError.ga.bind (.ref x)]
  refine wpAny_bind (wpAny_pure ?_)
  show wpAny _ _ (call (.builtin "BaseException.__getattribute__") [.ref x, .str "__class__" t]) _ _ _
  refine wpAny_call (codeAny_call_builtin PySem.F.excAttr_ValueError.ga.plain PySem.F.entry_bexc_ga (@check_slot (model prog w) _ _ ⟨hp, g, d, t + 1, os⟩ "BaseException.__getattribute__" "BaseException" "__getattribute__" (.ref x) [.str "__class__" t] [] _ (by decide +kernel) (by decide +kernel) Ms (PySem.F.args_bexc_ga (.ref x) (.str "__class__" t)) ?_))
  unfold Builtin.«object.__getattribute__»
  refine wpAny_bind (wpAny_of_eq (a := ((Value.ref x : Value), [Value.str "__class__" t])) (by first | rfl | (simp only [slotArgs]; rfl)) (wpAny_bind (wpAny_pure (wpAny_bind (M0.at (wpAny_bind (M3.at ?_)))))))
  show wpAny _ _ (holding [Value.builtin "object.__class__"] (call (.builtin "getset_descriptor.__get__") [.builtin "object.__class__", .ref x, .ref D]) >>= ret) _ _ _
  refine wpAny_bind (wpAny_holding (wpAny_call (class_get (s := ⟨hp, g, d, t + 1, os⟩) (ox := ox) (od := od) X I T.hm (wpAny_pure ?_))))
  show wpAny _ _ (handedOut (.ref D)) _ _ _
  rw [handedOut_of (v := .ref D) rfl]
  first
    | exact wpAny_pure (wpAny_pure h)
    | exact wpAny_pure h
    | exact wpAny_pure (wpAny_bind (wpAny_pure (wpAny_pure h)))
theorem exc_kit (T : L2.ExcC K D) : KitX K (.ref x) (.ref D) (fun h => ∃ ox od, InstAt h x ox D od) where
  ty := fun _ _ _ ⟨_, _, I⟩ => I.type
  it := fun _ h X _ => by
    obtain ⟨cd, hcd, _⟩ := any_some T.hd
    unfold clsIn at hcd
    split at hcd
    · rename_i q ho
      intro A' Q' E' s' k r
      unfold isType loadHead
      exact wpAny_bind (wpAny_loadPart (k _ _ (X _ _ ho)) (wpAny_pure r))
    · cases hcd
  ne := fun h tp dd its n sl X htp => by
    obtain ⟨cd, hcd, _⟩ := any_some T.hd
    cases q : (Value.ref D == Value.ref tp) with
    | false => rfl
    | true =>
      obtain rfl := Value.ref.inj (beq_iff_eq.mp q)
      unfold clsIn at hcd
      split at hcd
      · rename_i q2 ho
        have z := X _ _ ho
        rw [htp] at z
        cases z
      · cases hcd
  ca := fun X ⟨_, _, I⟩ k => exc_class T X I k
end
end Dl
namespace Dl
open PySem L2
section
variable {X : Cx} {pins : List (Addr × Obj)} {σ : St} {H : Hp} {s : Shared}
/-- what stands at a caught exception -/
theorem exH_at {C a : Addr} {d : Option Addr} (I : Inv X pins σ H s) (ha : H a = some (exH C d a)) (hd : ∀ dd, d = some dd → ∃ fs, H dd = some (.xd fs)) : ∃ ox od, PySem.W.InstAt s.heap a ox C od := by
  have q : ObjOk X.prog X.w H s.heap a (.ext fun h => ∃ (oe : Obj) (vs : Array Value), h.get? a = some oe ∧ Zc (.ref C) d oe ∧ oe.data = .fields vs) := I.hok a _ ha
  obtain ⟨⟨oe, vs, e, z, hv⟩, _⟩ := q
  have nc : PySem.W.notCls oe = true := by unfold PySem.W.notCls; rw [hv] <;> rfl
  cases d with
  | none => exact ⟨oe, none, e, z.1, nc, by rw [z.2]; trivial⟩
  | some dd =>
    obtain ⟨fs, hdd⟩ := hd dd rfl
    have q2 : ObjOk X.prog X.w H s.heap dd (.xd fs) := I.hok dd _ hdd
    obtain ⟨mA, ⟨o2, es, ep, e2, _⟩, _⟩ := q2
    exact ⟨oe, some o2, e, z.1, nc, by rw [z.2]; exact e2⟩
def rIsX (K : PySem.W.Frag) : List V → Hp → VK → Prop := fun xs H Q => ∃ (a C : Addr) (d : Option Addr) (c : V) (cv : Value) (b : Bool), xs = [.ref a, c] ∧ H a = some (exH C d a) ∧ (∀ dd, d = some dd → ∃ fs, H dd = some (.xd fs)) ∧ ExcC K C ∧ (∀ u, RelV c u → u = cv) ∧ PySem.W.kitOne K (.ref C) cv = some b ∧ Q (.bl b) H
theorem call_isX : CallR X (.builtin "isinstance") (rIsX X.K) := by
  intro pins s σ H xs us Q I r h
  obtain ⟨a, C, d, c, cv, b, rfl, ha, hd, T, hcv, e, q⟩ := h
  cases r with
  | cons rx rr =>
    cases rr with
    | cons rt rr =>
      cases rr
      cases rx
      have ec := hcv _ rt
      subst ec
      exact PySem.W.kia_one (exc_kit T) I.kIn (exH_at I ha hd) e (fun z => nomatch z) fun tk => ⟨.bl b, H, I.kept (t' := tk) fun _ _ z => z, rfl, q⟩
end
/-- the exceptions' classes cs as they are asked after: by isinstance with ts, by their fields -/
structure ExAll (K : PySem.W.Frag) (mg : Str → Option Value) (cs ts : List Str) : Prop where
  cls : ∀ c ∈ cs, ExcC K (He.ga K c)
  own : ∀ c ∈ cs, ∀ t ∈ ts, PySem.W.kitOne K (.ref (He.ga K c)) (.ref (He.ga K t)) = some (c == t || t == "FourTestsError")
  ve : ∀ c ∈ cs, PySem.W.kitOne K (.ref (He.ga K c)) (.type "ValueError") = some true
  non : ∀ t ∈ ts, PySem.W.kitOne K (.type "NoneType") (.ref (He.ga K t)) = some false
  nve : PySem.W.kitOne K (.type "NoneType") (.type "ValueError") = some false
  glo : ∀ t ∈ ts, mg t = some (.ref (He.ga K t))
  fld : ∀ c ∈ cs, noFld c = true ∨ (XfC K (He.ga K c) ∧ PySem.W.findIn K (.ref (He.ga K c)) (fldN c) = some none)
/-- isinstance(e, t): e None or a caught exception -/
def vIsX (cs : List Str) (f : Str → Bool) (a : DE) : DE := fun γ M R => a γ M fun d M1 => match d with
  | .exn c _ => c ∈ cs ∧ R (.bl (f c)) M1
  | .exn0 c => c ∈ cs ∧ R (.bl (f c)) M1
  | .non => R (.bl false) M1
  | _ => False
theorem e_vIsX (cs : List Str) (f : Str → Bool) (a : DE) (γ : Gm) (M : Mem) (R : DR) : vIsX cs f a γ M R = (a γ M fun d M1 => match d with
  | .exn c _ => c ∈ cs ∧ R (.bl (f c)) M1
  | .exn0 c => c ∈ cs ∧ R (.bl (f c)) M1
  | .non => R (.bl false) M1
  | _ => False) := propext Iff.rfl
/-- e.f -/
def vFld (cs : List Str) (f : Str) (a : DE) : DE := fun γ M R => a γ M fun d M1 => match d with
  | .exn c v => c ∈ cs ∧ noFld c = false ∧ fldN c = f ∧ R v M1
  | _ => False
theorem e_vFld (cs : List Str) (f : Str) (a : DE) (γ : Gm) (M : Mem) (R : DR) : vFld cs f a γ M R = (a γ M fun d M1 => match d with
  | .exn c v => c ∈ cs ∧ noFld c = false ∧ fldN c = f ∧ R v M1
  | _ => False) := propext Iff.rfl
section
variable {X : Cx} {C : Addr} {o e : Expr} {vo : DE} {cs ts : List Str} {t x : Str} {p p2 pos : Pos}
/-- one of two ways that a built-in may go -/
theorem call_or {id : String} {r r' : List V → Hp → VK → Prop} (h : CallR X (.builtin id) r) (h' : CallR X (.builtin id) r') : CallR X (.builtin id) (fun xs H Q => r xs H Q ∨ r' xs H Q) := by
  intro pins s σ H xs us Q I rv hh
  rcases hh with hh | hh
  · exact h pins s σ H xs us Q I rv hh
  · exact h' pins s σ H xs us Q I rv hh
theorem q_isX (T : ExAll X.K X.mg cs ts) (ht : t ∈ ts) (ha : QE X C o vo) (hg : Gl X x) (hm : X.mg x = none) (hv : bootBuiltins x = some (.builtin "isinstance")) (hg2 : Gl X t := by rfl) (hn : x ≠ "__name__" := by decide) (hdb : (x == ("__debug__" : Str)) = false := by decide) (hdt : (t == ("__debug__" : Str)) = false := by decide)
    (he : starEach (o :: [.Name t p2]) X.env = (false, eval o X.env) :: starEach [.Name t p2] X.env := by rfl) (he2 : starEach [.Name t p2] X.env = (false, eval (.Name t p2) X.env) :: starEach [] X.env := by rfl) (hpl : (backTo pos (starEach [.Name t p2] X.env)).any (·.1) = false := by rfl) :
    QE X C (.Call (.Name x p) [o, .Name t p2] [] pos) (vIsX cs (fun c => c == t || t == "FourTestsError") vo) := by
  obtain ⟨to, po, so⟩ := ha.ex
  refine ⟨_, pe_callB (call_or call_isX call_isi) hg hm hv (pa_cons po (pa_cons (pe_glob (v := .ref (He.ga X.K t)) hg2 (T.glo t ht) rfl hdt) pa_nil he2) he) hn hdb he hpl, fun γ M R σ H Q re h k => ?_⟩
  refine (so γ M _ σ H _ re h fun d M1 x1 H1 o1 i1 e1 h1 => ?_)
  cases d with
  | exn c' v =>
    unfold Is at i1
    obtain ⟨a, dd, u, ex, ma, ha, md, hd, i⟩ := i1
    exact .inl ⟨a, _, some dd, .ref (He.ga X.K t), .ref (He.ga X.K t), _, by rw [ex], ha, fun d2 e2 => by cases e2; exact ⟨_, hd⟩, T.cls c' h1.1, fun u hu => hu, T.own c' h1.1 t ht, k _ M1 _ H1 o1 is_bl e1 h1.2⟩
  | exn0 c' =>
    unfold Is at i1
    obtain ⟨a, ex, ma, ha⟩ := i1
    exact .inl ⟨a, _, none, .ref (He.ga X.K t), .ref (He.ga X.K t), _, by rw [ex], ha, fun d2 e2 => (nomatch e2), T.cls c' h1.1, fun u hu => hu, T.own c' h1.1 t ht, k _ M1 _ H1 o1 is_bl e1 h1.2⟩
  | non =>
    unfold Is at i1
    exact .inr ⟨x1, .ref (He.ga X.K t), _, _, false, by rfl, .own _, by rw [i1]; exact .base .non, T.non t ht, k _ M1 _ H1 o1 is_bl e1 h1⟩
  | _ => exact False.elim h1
/-- isinstance(e, ValueError) -/
theorem q_isV (T : ExAll X.K X.mg cs ts) (ha : QE X C o vo) (hg : Gl X x) (hm : X.mg x = none) (hv : bootBuiltins x = some (.builtin "isinstance")) (hg2 : Gl X "ValueError") (hm2 : X.mg "ValueError" = none) (hn : x ≠ "__name__" := by decide) (hdb : (x == ("__debug__" : Str)) = false := by decide)
    (he : starEach (o :: [.Name "ValueError" p2]) X.env = (false, eval o X.env) :: starEach [.Name "ValueError" p2] X.env := by rfl) (he2 : starEach [.Name "ValueError" p2] X.env = (false, eval (.Name "ValueError" p2) X.env) :: starEach [] X.env := by rfl) (hpl : (backTo pos (starEach [.Name "ValueError" p2] X.env)).any (·.1) = false := by rfl) :
    QE X C (.Call (.Name x p) [o, .Name "ValueError" p2] [] pos) (vIsX cs (fun _ => true) vo) := by
  obtain ⟨to, po, so⟩ := ha.ex
  refine ⟨_, pe_callB (call_or call_isX call_isi) hg hm hv (pa_cons po (pa_cons (pe_bltn (v := .ty "ValueError") hg2 hm2 PyProof.Rows.Boot.«ValueError» rfl (by decide) (by decide)) pa_nil he2) he) hn hdb he hpl, fun γ M R σ H Q re h k => ?_⟩
  refine (so γ M _ σ H _ re h fun d M1 x1 H1 o1 i1 e1 h1 => ?_)
  cases d with
  | exn c' v =>
    unfold Is at i1
    obtain ⟨a, dd, u, ex, ma, ha, md, hd, i⟩ := i1
    exact .inl ⟨a, _, some dd, .ty "ValueError", .type "ValueError", _, by rw [ex], ha, fun d2 e2 => by cases e2; exact ⟨_, hd⟩, T.cls c' h1.1, fun u hu => hu, T.ve c' h1.1, k _ M1 _ H1 o1 is_bl e1 h1.2⟩
  | exn0 c' =>
    unfold Is at i1
    obtain ⟨a, ex, ma, ha⟩ := i1
    exact .inl ⟨a, _, none, .ty "ValueError", .type "ValueError", _, by rw [ex], ha, fun d2 e2 => (nomatch e2), T.cls c' h1.1, fun u hu => hu, T.ve c' h1.1, k _ M1 _ H1 o1 is_bl e1 h1.2⟩
  | non =>
    unfold Is at i1
    exact .inr ⟨x1, .ty "ValueError", _, _, false, by rfl, .ty _, by rw [i1]; exact .base .non, T.nve, k _ M1 _ H1 o1 is_bl e1 h1⟩
  | _ => exact False.elim h1
/-- e.f of a caught exception -/
def tXfo (f : Str) (te : TE) (K : PySem.W.Frag) : TE := fun σ H Q => te σ H fun x1 H1 => ∃ (a c dd : Addr) (u : V), x1 = .ref a ∧ H1 a = some (exH c (some dd) a) ∧ H1 dd = some (.xd [(f, u)]) ∧ XfC K c ∧ PySem.W.findIn K (.ref c) f = some none ∧ Q u H1
theorem pe_xfo {te : TE} {f : Str} (he : PE X e te) (hb : attributeBase e f X.env (eval e X.env) = eval e X.env := by rfl) : PE X (.Attribute e f pos) (tXfo f te X.K) := by
  refine ⟨fun pins s σ H Q I h => attr_of hb (thn (he.run pins s σ H _ I h) fun u s1 ⟨x1, H1, I1, rx, a, c, dd, v, ex, ha, hd, T, hno, q⟩ => ?_)⟩
  subst ex
  obtain rfl : u = Value.ref a := rx
  have q1 : ObjOk X.prog X.w H1 s1.heap a (.ext fun h => ∃ (oe : Obj) (vs : Array Value), h.get? a = some oe ∧ Zc (.ref c) (some dd) oe ∧ oe.data = .fields vs) := I1.hok a _ ha
  obtain ⟨⟨oe, vs, eo, z, hv⟩, _⟩ := q1
  have q2 : ObjOk X.prog X.w H1 s1.heap dd (.xd [(f, v)]) := I1.hok dd _ hd
  obtain ⟨mA, hns, hr⟩ := q2
  obtain ⟨od, ho, hl⟩ := lookIn_ns hns
  have lk : List.lookup f [(f, v)] = some v := by rw [List.lookup_cons, beq_self_eq_true]
  obtain ⟨u, hu, ru⟩ := RelO.some_of (v := v) (o := mA f) (by rw [← lk]; exact hr f)
  have J : PySem.W.InstAt s1.heap a oe c (some od) := ⟨eo, z.1, by unfold PySem.W.notCls; rw [hv] <;> rfl, by rw [z.2]; exact ho⟩
  exact HandSPX.exc_get I1.kIn J T.ga T.gg T.exC (PySem.W.findObj_own T.hdC hno rfl (by rw [hl, hu])) (handed_of ru) ⟨v, H1, I1.tok _, ru, q⟩
theorem q_fld {f : Str} (T : ExAll X.K X.mg cs ts) (ho : QE X C o vo) (hb : attributeBase o f X.env (eval o X.env) = eval o X.env := by rfl) : QE X C (.Attribute o f pos) (vFld cs f vo) := by
  obtain ⟨to, po, so⟩ := ho.ex
  refine ⟨_, pe_xfo po hb, fun γ M R σ H Q re h k => so γ M _ σ H _ re h fun d M1 x1 H1 o1 i1 e1 h1 => ?_⟩
  cases d with
  | exn c v =>
    obtain ⟨hc, hn, hf, hr⟩ := h1
    unfold Is at i1
    obtain ⟨a, dd, u, ex, ma, ha, md, hd, i⟩ := i1
    rcases T.fld c hc with z | ⟨z1, z2⟩
    · rw [hn] at z; cases z
    · subst hf
      exact ⟨a, _, dd, u, ex, ha, hd, z1, z2, k _ M1 _ H1 o1 i e1 hr⟩
  | _ => exact False.elim h1
end
end Dl
namespace Dl
open PySem L2
/-! ### the exceptions' classes at the head -/
/-- the text of a class's own __init__ -/
structure DefE where
  cls : Str
  qual : Str
  params : Arguments
  body : List Stmt
  scope : Scope
def iA (K : PySem.W.Frag) (c : Str) : Addr := He.ma K (He.ga K c) "__init__"
def fnE (K : PySem.W.Frag) (a : Addr) : He.FnW := match K.lookup a with
  | some ⟨_, _, .func fd, _⟩ => some (fd.name, fd.qualname, fd.params, fd.body, fd.scope, fd.globals, [], fd.builtins)
  | _ => none
def DefE.val (d : DefE) : He.FnW := some ("__init__", d.qual, d.params, .stmts d.body, d.scope, mainGlobals, [], builtinsNs)
def oexB (K : PySem.W.Frag) (C : Addr) : Bool := (match K.lookup C with
  | some ⟨.type "type", _, .cls cd, sl⟩ => (match cd.mro, sl.toList with
    | .ref C' :: bm, [_, _, _, _, some (.builtin n), _] => C' == C && (n == "ValueError.__new__" && (!cd.hasDel && (cd.hasDict && HandSPX.refsVE bm)))
    | _, _ => false)
  | _ => false) && (He.eqO (PySem.W.findIn K (.ref C) "__setattr__") (some (some (.builtin "object.__setattr__"))) && (decide (PySem.W.subIn K (.ref C) (.type "BaseException") = some true) && (decide (PySem.W.typeIn K (.ref C) = some (.type "type")) && PySem.W.keepIn K (.ref C))))
theorem oexB_ok {K : PySem.W.Frag} {C : Addr} (h : oexB K C = true) : OexC K C := by
  obtain ⟨q, h⟩ := He.ba h
  obtain ⟨h2, h⟩ := He.ba h
  obtain ⟨h3, h⟩ := He.ba h
  obtain ⟨h4, h5⟩ := He.ba h
  refine ⟨?_, He.eqO_ok h2, of_decide_eq_true h3, of_decide_eq_true h4, h5⟩
  split at q
  · rename_i dd cd sl ho
    split at q
    · rename_i C' bm k0 k1 k2 k3 n k5 hm hs
      obtain ⟨a1, q⟩ := He.ba q
      obtain ⟨a2, q⟩ := He.ba q
      obtain ⟨a3, q⟩ := He.ba q
      obtain ⟨a4, a5⟩ := He.ba q
      have e1 := beq_iff_eq.mp a1
      have e2 := beq_iff_eq.mp a2
      subst e1 e2
      have a3' : cd.hasDel = false := by cases z : cd.hasDel with
        | false => rfl
        | true => rw [z] at a3; cases a3
      obtain ⟨nm, bs, mro, ns, qn, hd, sn, sub, ab, col, del⟩ := cd
      dsimp only at hm a3' a4
      subst hm a3' a4
      have hsl : sl = #[k0, k1, k2, k3, some (.builtin "ValueError.__new__"), k5] := by
        obtain ⟨l⟩ := sl
        simp only at hs
        rw [hs]
      subst hsl
      exact ⟨nm, qn, ns, bs, bm, sn, sub, ab, col, dd, k0, k1, k2, k3, k5, ho, a5⟩
    · cases q
  · cases q
def cellB (K : PySem.W.Frag) (C : Addr) : List (Str × Addr) → Bool
  | [(x, cc)] => decide (x = "__class__") && (match K.lookup cc with
    | some ⟨_, _, .cell (some (.ref D)), _⟩ => D == C
    | _ => false)
  | _ => false
def codeB (K : PySem.W.Frag) (file q : Str) : Value → Bool
  | .ref cda => PySem.W.codeIn K (.ref cda) q && (match K.lookup cda with
    | some ⟨_, _, .fields vs, _⟩ => (match vs[2]? with
      | some (Value.str f _) => decide (f = file)
      | _ => false)
    | _ => false)
  | _ => false
def fieldB (K : PySem.W.Frag) (c : Str) : Bool := He.eqO (PySem.W.findIn K (.ref (He.ga K c)) (fldN c)) (some none)
/-- a tuple of one default -/
def oneB (K : PySem.W.Frag) (T : Addr) : Bool := match K.lookup T with
  | some ⟨_, _, .seq its _, _⟩ => its.toList.length == 1
  | _ => false
theorem oneB_ok {K : PySem.W.Frag} {T : Addr} (h : oneB K T = true) : ∃ (o : Obj) (v : Value) (n : Nat), K.lookup T = some o ∧ o.data = .seq [v].toArray n := by
  unfold oneB at h
  split at h
  · rename_i c d its n sl lk
    have e := beq_iff_eq.mp h
    obtain ⟨l⟩ := its
    match l, e, lk with
    | [v], _, lk => exact ⟨_, v, n, lk, rfl⟩
  · cases h
def DefE.ok (file : Str) (K : PySem.W.Frag) (d : DefE) : Bool := (match K.lookup (iA K d.cls) with
  | some ⟨_, _, .func fd, _⟩ => codeB K file d.qual fd.code && (cellB K (He.ga K d.cls) fd.closure && ((match fd.defaults with
    | .ref T => oneB K T
    | _ => false) && decide (fd.kwdefaults = .none)))
  | _ => false) && (oexB K (He.ga K d.cls) && (decide (PySem.W.mroIn K (He.ga K d.cls) (.ref (He.ga K d.cls)) = some true) && (decide (PySem.W.subIn K (.ref (He.ga K d.cls)) (.type "ValueError") = some true) && ((match PySem.W.clsIn K (He.ga K d.cls) with
    | some cd => He.eqO (PySem.W.alongIn K "__init__" ((cd.mro.dropWhile (· != .ref (He.ga K d.cls))).drop 1)) (some (some (.builtin "ValueError.__init__")))
    | none => false) && (He.eqO (PySem.W.nsIn K cStatics "thirdparty.any") (some none) && (fieldB K d.cls && (He.eqO (PySem.W.findIn K (.ref (He.ga K d.cls)) "__init__") (some (some (.ref (iA K d.cls)))) && (decide (PySem.W.typeIn K (.ref (iA K d.cls)) = some (.type "function")) &&
      (decide (PySem.W.exmOne K (.ref (He.ga K d.cls)) (.ref (He.ga K "FourTestsError")) = some true) && (!noFld d.cls && PySem.W.keepIn K (.ref (iA K d.cls))))))))))))
/-- what the text of such an __init__ must be: by evaluation -/
structure TxE (d : DefE) : Prop where
  body_ : ∃ p0 p1 p2 p3 p4 p5 p6 p7 p8 p9, d.body = [.Expr (.Call (.Attribute (.Call (.Name "super" p0) [] [] p1) "__init__" p2) [.Name (fldN d.cls) p3] [] p4) p5, .Assign [.Attribute (.Name "self" p6) (fldN d.cls) p7] (.Name (fldN d.cls) p8) p9] ∧
    ∀ env : Env, ∃ pl : Sem Bool, eval (.Call (.Attribute (.Call (.Name "super" p0) [] [] p1) "__init__" p2) [.Name (fldN d.cls) p3] [] p4) env = (do
      let ov ← attributeBase (.Call (.Name "super" p0) [] [] p1) "__init__" env (eval (.Call (.Name "super" p0) [] [] p1) env)
      standAt p2.atName
      let (g, first) ← holding [ov] (getMethod ov "__init__" pl)
      callWith p4 g first (backTo p4 (starEach [.Name (fldN d.cls) p3] env)) [])
  head : (d.params.posonlyargs ++ d.params.args).head?.map (·.arg) = some ("self" : Str)
  sc1 : d.scope.names.lookup ("self" : Str) = some NameKind.local
  sc2 : d.scope.names.lookup (fldN d.cls) = some NameKind.local
  sc3 : d.scope.names.lookup ("super" : Str) = some NameKind.globalImplicit
  sc4 : d.scope.names.lookup ("__class__" : Str) = some NameKind.free
  cell : ∀ x ∈ d.scope.names, x.2 ≠ .cell
  flags : d.scope.isCoroutine = false ∧ d.scope.isGenerator = false ∧ d.scope.kind = .function
  names : (fldN d.cls == ("self" : Str)) = false ∧ (fldN d.cls == ("__debug__" : Str)) = false ∧ (fldN d.cls == ("__classdict__" : Str)) = false
  binds : ∀ (T : Addr) (doc pm : Value) (an : Option Addr) (cdv ct : Value) (cc : Addr) (us : List Value) (v : Value), us.length = 2 → ∃ k, bindArgs (PySem.W.ksFn "__init__" d.qual d.params d.body d.scope (.ref T) .none doc pm an cdv ct cc) ⟨us, []⟩ = seqItems? (.ref T) >>= k ∧ k (some [v].toArray) = pure ((["self", fldN d.cls] : List Str).zip us)
theorem exk_of {P : Program} {w : World} {K : PySem.W.Frag} {mg : Str → Option Value} {base : Heap} {d : DefE} {file : Str} (hfile : P.main.file = file) (htop : (P.main.scope.names.lookup ("super" : Str)).isSome = false) (hsup : mg "super" = none) (hc : mg d.cls = some (.ref (He.ga K d.cls))) (T : TxE d) (e : fnE K (iA K d.cls) = d.val) (h : d.ok file K = true) : ExK P w K mg base 1 d.cls := by
  unfold DefE.ok at h
  obtain ⟨q, h⟩ := He.ba h
  obtain ⟨h1, h⟩ := He.ba h
  obtain ⟨h2, h⟩ := He.ba h
  obtain ⟨h3, h⟩ := He.ba h
  obtain ⟨h4, h⟩ := He.ba h
  obtain ⟨h5, h⟩ := He.ba h
  obtain ⟨h6, h⟩ := He.ba h
  obtain ⟨h7, h⟩ := He.ba h
  obtain ⟨h8, h⟩ := He.ba h
  obtain ⟨h9, h⟩ := He.ba h
  obtain ⟨h10, h11⟩ := He.ba h
  unfold fnE at e
  split at q
  · rename_i oc od fd osl lk
    rw [lk] at e
    obtain ⟨n1, n2, n3, n4, n5, n6, n7, n8, n9, n10, n11, n12, n13, n14, n15⟩ := fd
    have e2 : (some (n1, n2, n3, n4, n5, n6, ([] : List (Str × Addr)), n15) : He.FnW) = (some (("__init__" : Str), d.qual, d.params, FuncBody.stmts d.body, d.scope, mainGlobals, ([] : List (Str × Addr)), builtinsNs) : He.FnW) := e
    simp only [Option.some.injEq, Prod.mk.injEq, true_and] at e2
    obtain ⟨g1, g2, g3, g4, g5, g6, g7⟩ := e2
    subst g1 g2 g3 g4 g5 g6 g7
    obtain ⟨c1, q⟩ := He.ba q
    obtain ⟨c2, q⟩ := He.ba q
    obtain ⟨c3, c4⟩ := He.ba q
    have c4' : n9 = .none := of_decide_eq_true c4
    subst c4'
    have c2' : cellB K (He.ga K d.cls) n7 = true := c2
    have c1' : codeB K file d.qual n13 = true := c1
    match n7, c2', lk with
    | [(x, cc)], c2', lk =>
      obtain ⟨x1, x2⟩ := He.ba c2'
      have ex := of_decide_eq_true x1
      subst ex
      match n13, c1', lk with
      | .ref cda, c1', lk =>
        obtain ⟨y1, y2⟩ := He.ba c1'
        match n8, c3, lk with
        | .ref TT, c3, lk =>
          split at x2
          · rename_i c5 d5 D s5 lcc
            have eD := beq_iff_eq.mp x2
            subst eD
            split at y2
            · rename_i c6 d6 vs s6 lcd
              split at y2
              · rename_i fl tf hv
                have ef := of_decide_eq_true y2
                obtain ⟨oT, v, nT, lT, dT⟩ := oneB_ok c3
                refine ⟨iA K d.cls, _, ["self", fldN d.cls], hc, oexB_ok h1, He.eqO_ok h7, of_decide_eq_true h8, fn_exinit ⟨⟨oc, od, _, _, n10, n11, n12, n14, cda, cc, osl, lk, y1, ⟨c6, d6, vs, s6, tf, lcd, ?_⟩, ⟨c5, d5, s5, lcc⟩⟩, htop, hsup, oexB_ok h1, of_decide_eq_true h2, of_decide_eq_true h3, ?_, He.eqO_ok h5, He.eqO_ok h6, T.body_, T.head, T.sc1, T.sc2, T.sc3, T.sc4, T.cell, T.flags, T.names⟩ ⟨_, _, _, lk⟩,
                  (fun s us Xs hl => by
                    rw [List.append_nil] at hl ⊢
                    obtain ⟨k, e1, e2⟩ := T.binds TT n10 n11 n12 (.ref cda) n14 cc us v hl
                    refine BindsTo.of_looks fun M => ?_
                    have e1' := e1
                    rw [show ∀ z : FuncData, (bindArgs z ⟨us, []⟩ = seqItems? (.ref TT) >>= k) = (bindArgs z ⟨us, []⟩ = seqItems? (.ref TT) >>= k) from fun _ => rfl] at e1'
                    exact e1' ▸ looks_items Xs lT dT (.of_pure e2)), of_decide_eq_true h9, by cases z : noFld d.cls with | false => rfl | true => rw [z] at h10; cases h10⟩
                · rw [hfile, ← ef]; exact hv
                · split at h4
                  · rename_i cd hcd
                    exact ⟨cd, hcd, He.eqO_ok h4⟩
                  · cases h4
              · cases y2
            · cases y2
          · cases x2
  · cases q
/-- what the law asks of caught exceptions, as a Bool -/
def excB (K : PySem.W.Frag) (D : Addr) : Bool := He.eqO (PySem.W.findIn K (.ref D) "__getattribute__") (some (some (.builtin "BaseException.__getattribute__"))) && (He.eqO (PySem.W.findIn K (.ref D) "__getattr__") (some none) && (decide (PySem.W.subIn K (.ref D) (.type "BaseException") = some true) && (PySem.W.hasDictIn K D && (He.eqO (PySem.W.findIn K (.ref D) "__class__") (some (some (.builtin "object.__class__"))) &&
  (He.eqO (PySem.W.specialIn K (.builtin "object.__class__") "__get__") (some (some (.builtin "getset_descriptor.__get__"))) && (decide (PySem.W.takesIn K (.builtin "object.__class__") = some true) && decide (PySem.W.mroIn K D (.type "object") = some true)))))))
theorem excB_ok {K : PySem.W.Frag} {D : Addr} (h : excB K D = true) : ExcC K D := by
  obtain ⟨h1, h⟩ := He.ba h
  obtain ⟨h2, h⟩ := He.ba h
  obtain ⟨h3, h⟩ := He.ba h
  obtain ⟨h4, h⟩ := He.ba h
  obtain ⟨h5, h⟩ := He.ba h
  obtain ⟨h6, h⟩ := He.ba h
  obtain ⟨h7, h8⟩ := He.ba h
  exact ⟨He.eqO_ok h1, He.eqO_ok h2, of_decide_eq_true h3, h4, He.eqO_ok h5, He.eqO_ok h6, of_decide_eq_true h7, of_decide_eq_true h8⟩
def exAllB (K : PySem.W.Frag) (cs ts : List Str) : Bool := (cs.all fun c => excB K (He.ga K c) && ((ts.all fun t => decide (PySem.W.kitOne K (.ref (He.ga K c)) (.ref (He.ga K t)) = some (c == t || t == "FourTestsError"))) && (decide (PySem.W.kitOne K (.ref (He.ga K c)) (.type "ValueError") = some true) && (noFld c || (xfB K (He.ga K c) && fieldB K c))))) &&
  ((ts.all fun t => decide (PySem.W.kitOne K (.type "NoneType") (.ref (He.ga K t)) = some false)) && decide (PySem.W.kitOne K (.type "NoneType") (.type "ValueError") = some false))
theorem exAllB_ok {K : PySem.W.Frag} {mg : Str → Option Value} {cs ts : List Str} (g : ∀ t ∈ ts, mg t = some (.ref (He.ga K t))) (h : exAllB K cs ts = true) : ExAll K mg cs ts := by
  obtain ⟨h1, h⟩ := He.ba h
  obtain ⟨h2, h3⟩ := He.ba h
  have a : ∀ c ∈ cs, _ := fun c hc => List.all_eq_true.mp h1 c hc
  refine ⟨fun c hc => excB_ok (He.ba (a c hc)).1, fun c hc t ht => ?_, fun c hc => ?_, fun t ht => of_decide_eq_true (List.all_eq_true.mp h2 t ht), of_decide_eq_true h3, g, fun c hc => ?_⟩
  · exact of_decide_eq_true (List.all_eq_true.mp (He.ba (He.ba (a c hc)).2).1 t ht)
  · exact of_decide_eq_true (He.ba (He.ba (He.ba (a c hc)).2).2).1
  · have z := (He.ba (He.ba (He.ba (a c hc)).2).2).2
    rcases Bool.or_eq_true_iff.mp z with z | z
    · exact .inl z
    · exact .inr ⟨xfB_ok (He.ba z).1, He.eqO_ok (He.ba z).2⟩
/-! ### the hook with the exceptions' texts -/
abbrev AlE : Type := He.AlD × List He.FnW
def ob4 (as : List Addr) (ex : PySem.W.Frag → Bool) (fa : List He.Fa) (fn : List He5.DefA) (file : Str) (es : List DefE) (g : Addr → Option Obj) : AlE := (ob2 (fun K => ex K && es.all fun d => d.ok file K) fa fn (He.frG g as), es.map fun d => fnE (He.frG g as) (iA (He.frG g as) d.cls))
def Says4 (ex : PySem.W.Frag → Bool) (fa : List He.Fa) (fn : List He5.DefA) (file : Str) (es : List DefE) (K : PySem.W.Frag) : Prop := Says2 (fun K => ex K && es.all fun d => d.ok file K) fa fn K ∧ es.map (fun d => fnE K (iA K d.cls)) = es.map DefE.val
def hook4 (as : List Addr) (ex : PySem.W.Frag → Bool) (fa : List He.Fa) (fn : List He5.DefA) (file : Str) (es : List DefE) : PySem.W.Hook where
  α := AlE
  obs := fun s => ob4 as ex fa fn file es s.heap.get?
  val := fun _ => (He5.valA fn, es.map DefE.val)
  says := fun _ h => ∃ K : PySem.W.Frag, K.In h ∧ Says4 ex fa fn file es K
  of := fun _ _ e => ⟨_, He.frG_in, congrArg (fun z : AlE => z.1) e, congrArg (fun z : AlE => z.2) e⟩
  keeps := fun _ _ _ z k => let ⟨K, hK, c⟩ := z; ⟨K, PySem.W.Frag.In.keeps hK k, c⟩
theorem ob4_eq {as : List Addr} {ex : PySem.W.Frag → Bool} {fa : List He.Fa} {fn : List He5.DefA} {file : Str} {es : List DefE} {g : Addr → Option Obj} {s : Shared} (h : ∀ a, g a = s.heap.get? a) : ob4 as ex fa fn file es g = (hook4 as ex fa fn file es).obs s := by
  have e : g = s.heap.get? := funext h
  rw [e] <;> rfl
theorem Says4.exc {ex : PySem.W.Frag → Bool} {fa : List He.Fa} {fn : List He5.DefA} {file : Str} {es : List DefE} {K : PySem.W.Frag} (c : Says4 ex fa fn file es K) (i : Nat) {d : DefE} (h : es[i]? = some d := by rfl) : fnE K (iA K d.cls) = d.val ∧ d.ok file K = true := by
  have e := congrArg (fun l => l[i]?) c.2
  simp only [List.getElem?_map, h, Option.map_some, Option.some.injEq] at e
  exact ⟨e, List.all_eq_true.mp (He.ba c.1.both.2).2 d (List.mem_of_getElem? h)⟩
end Dl
namespace Dl
open PySem L2
/-! ### calls of defs that may raise: how they bind -/
section
variable {P : Program} {w : World} {K : PySem.W.Frag} {mg : Str → Option Value} {base : Heap} {C : Addr} {k n : Nat} {S : DSp} {Sx : DSx} {x qual : Str} {params : Arguments} {body : List Stmt} {scope : Scope} {dvs : List V} {kws : List (Str × V)} {f : Addr} {fd : FuncData} {ps : List Str}
theorem callx_all (G : mg x = some (.ref f)) (F : FunD K x qual params body scope [] kws f fd) (ok : FnOk P w K mg base (CXp P w) k f fd ps (spU ⟨K, C⟩ n S Sx))
    (h : ∀ (kV doc pm : Value) (an : Option Addr) (cdv ct : Value) (us : List Value), us.length = ps.length → bindArgs (PySem.W.fnOf x qual params body scope .none kV doc pm an cdv ct) ⟨us, []⟩ = pure (ps.zip us)) : CallX P w K mg base C k x n S Sx [] :=
  ⟨f, fd, ps, [], [], G, F.kp, ok, F.bindsN h, .nil, rfl⟩
theorem callx_dfl (dd : List D) (m j : Nat) (G : mg x = some (.ref f)) (F : FunD K x qual params body scope dvs kws f fd) (ok : FnOk P w K mg base (CXp P w) k f fd ps (spU ⟨K, C⟩ n S Sx)) (hd : dvs ≠ []) (hn : m + (dvs.length - j) = ps.length) (hdd : constL dd = some (dvs.drop j))
    (h : ∀ (T : Addr) (kV doc pm : Value) (an : Option Addr) (cdv ct : Value) (us its : List Value), us.length = m → its.length = dvs.length →
      ∃ k, bindArgs (PySem.W.fnOf x qual params body scope (.ref T) kV doc pm an cdv ct) ⟨us, []⟩ = seqItems? (.ref T) >>= k ∧ k (some its.toArray) = pure (ps.zip (us ++ its.drop j))) : CallX P w K mg base C k x n S Sx dd := by
  obtain ⟨ds, h1, h2⟩ := F.binds1 m j hd hn h
  exact ⟨f, fd, ps, ds, _, G, F.kp, ok, h2, h1, hdd⟩
theorem callx_full (G : mg x = some (.ref f)) (F : FunD K x qual params body scope dvs kws f fd) (ok : FnOk P w K mg base (CXp P w) k f fd ps (spU ⟨K, C⟩ n S Sx)) (hd : dvs ≠ [])
    (h : ∀ (T : Addr) (kV doc pm : Value) (an : Option Addr) (cdv ct : Value) (us : List Value), us.length = ps.length → bindArgs (PySem.W.fnOf x qual params body scope (.ref T) kV doc pm an cdv ct) ⟨us, []⟩ = pure (ps.zip us)) : CallX P w K mg base C k x n S Sx [] := by
  obtain ⟨oc, od, dV, kV, doc, pm, an, cdv, ct, osl, e, lk, hcd, hD, hK⟩ := F.ex
  rcases hD with ⟨z, _⟩ | ⟨_, T, o, its, m, e2, lT, oT, rT⟩
  · exact absurd z hd
  · subst e; subst e2
    exact ⟨f, _, ps, [], [], G, F.kp, ok, .all (h T kV doc pm an cdv ct), .nil, rfl⟩
theorem callx_kwd (dd : List D) (m : Nat) (G : mg x = some (.ref f)) (F : FunD K x qual params body scope [] kws f fd) (ok : FnOk P w K mg base (CXp P w) k f fd ps (spU ⟨K, C⟩ n S Sx)) (hk : kws ≠ []) (hn : m + kws.length = ps.length) (hdd : constL dd = some (kws.map (·.2)))
    (h : ∀ (Dd : Addr) (doc pm : Value) (an : Option Addr) (cdv ct : Value) (us ks : List Value), us.length = m → ks.length = kws.length →
      KwChain Dd ((kws.map (·.1)).zip ks) (bindArgs (PySem.W.fnOf x qual params body scope .none (.ref Dd) doc pm an cdv ct) ⟨us, []⟩) (ps.zip (us ++ ks))) : CallX P w K mg base C k x n S Sx dd := by
  obtain ⟨ds, h1, h2⟩ := F.binds0 m hk hn h
  exact ⟨f, fd, ps, ds, _, G, F.kp, ok, h2, h1, hdd⟩
theorem callx_kw (np : Nat) (ks : List Str) (ix : List Nat) (G : mg x = some (.ref f)) (F : FunD K x qual params body scope [] kws f fd) (ok : FnOk P w K mg base (CXp P w) k f fd ps (spU ⟨K, C⟩ n S Sx))
    (h : ∀ (kV doc pm : Value) (an : Option Addr) (cdv ct : Value) (us ws : List Value), us.length = np → ws.length = ks.length → bindArgs (PySem.W.fnOf x qual params body scope .none kV doc pm an cdv ct) ⟨us, ks.zip ws⟩ = pure (ps.zip (pickL ix us ws))) : KCallX P w K mg base C k x n S Sx np ks (pickL ix) := by
  obtain ⟨oc, od, dV, kV, doc, pm, an, cdv, ct, osl, e, lk, hcd, hD, hK⟩ := F.ex
  rcases hD with ⟨_, e2⟩ | ⟨z, _⟩
  · subst e; subst e2
    exact ⟨f, _, ps, pickL ix, pickL ix, G, F.kp, ok, ⟨fun s us ws _ l1 l2 => .of_eq (h kV doc pm an cdv ct us ws l1 l2), fun r s => pick_vals r s ix⟩, fun M H ds zs vs us r s => pick_isL r s ix⟩
  · exact absurd rfl z
end
/-! ### equations -/
theorem e_vL (v : DE) (γ : Gm) (M : Mem) (R : DR) (Xd : DX) : vL v γ M R Xd = v γ M R := propext Iff.rfl
theorem e_tL (v : DT) (γ : Gm) (M : Mem) (R : Bool → Mem → Prop) (Xd : DX) : tL v γ M R Xd = v γ M R := propext Iff.rfl
theorem e_aL (v : DA) (γ : Gm) (M : Mem) (R : List D → Mem → Prop) (Xd : DX) : aL v γ M R Xd = v γ M R := propext Iff.rfl
theorem e_vConsX (a : DEX) (r : DAX) (γ : Gm) (M : Mem) (R : List D → Mem → Prop) (Xd : DX) : vConsX a r γ M R Xd = (a γ M (fun d M1 => r γ M1 (fun ds M2 => R (d :: ds) M2) Xd) Xd) := propext Iff.rfl
theorem e_vCallX (n : Nat) (S : DSp) (Sx : DSx) (dd : List D) (a : DAX) (γ : Gm) (M : Mem) (R : DR) (Xd : DX) : vCallX n S Sx dd a γ M R Xd = (a γ M (fun ds M1 => (ds ++ dd).length = n ∧ (S (ds ++ dd) M1 R noX ∨ Sx (ds ++ dd) M1 Xd)) Xd) := propext Iff.rfl
theorem e_vCallKX (n np nk : Nat) (S : DSp) (Sx : DSx) (pick : List D → List D → List D) (a kw : DAX) (γ : Gm) (M : Mem) (R : DR) (Xd : DX) : vCallKX n np nk S Sx pick a kw γ M R Xd = (a γ M (fun ds M1 => kw γ M1 (fun zs M2 => ds.length = np ∧ zs.length = nk ∧ (pick ds zs).length = n ∧ (S (pick ds zs) M2 R noX ∨ Sx (pick ds zs) M2 Xd)) Xd) Xd) := propext Iff.rfl
theorem e_vDropX (a : DEX) (Ed : DEnds) (γ : Gm) (M : Mem) : vDropX a Ed γ M = (a γ M (fun _ M1 => Ed.nx γ M1) (Ed.xx γ)) := propext Iff.rfl
theorem e_vAsgX (a : DEX) (g : DG) (Ed : DEnds) (γ : Gm) (M : Mem) : vAsgX a g Ed γ M = (a γ M (fun d M1 => g d γ M1 Ed.nx) (Ed.xx γ)) := propext Iff.rfl
theorem e_vRetX (a : DEX) (Ed : DEnds) (γ : Gm) (M : Mem) : vRetX a Ed γ M = (a γ M Ed.rt (Ed.xx γ)) := propext Iff.rfl
theorem e_vIfX (c : DTX) (a b : DS) (Ed : DEnds) (γ : Gm) (M : Mem) : vIfX c a b Ed γ M = (c γ M (fun k M1 => (k = true → a Ed γ M1) ∧ (k = false → b Ed γ M1)) (Ed.xx γ)) := propext Iff.rfl
theorem e_vBX (v : DEX) (γ : Gm) (M : Mem) (R : Bool → Mem → Prop) (Xd : DX) : vBX v γ M R Xd = (v γ M (fun d M1 => match d with
  | .bl b => R b M1
  | _ => False) Xd) := propext Iff.rfl
theorem e_vIsNX (f : Bool → Bool) (a : DEX) (γ : Gm) (M : Mem) (R : DR) (Xd : DX) : vIsNX f a γ M R Xd = (a γ M (fun d M1 => R (.bl (f (isNon d))) M1) Xd) := propext Iff.rfl
theorem e_vNotX (a : DTX) (γ : Gm) (M : Mem) (R : Bool → Mem → Prop) (Xd : DX) : vNotX a γ M R Xd = (a γ M (fun k M1 => R (!k) M1) Xd) := propext Iff.rfl
theorem e_vRaise (c : Str) (a : DA) (Ed : DEnds) (γ : Gm) (M : Mem) : vRaise c a Ed γ M = (a γ M fun ds M1 => match ds with
  | [d] => Ed.xx γ ⟨c, d⟩ M1
  | _ => False) := propext Iff.rfl
theorem e_vTry (i j : Nat) (b : DS) (Ed : DEnds) (γ : Gm) (M : Mem) : vTry i j b Ed γ M = b { Ed with xx := fun γ' xd M' => Ed.nx (gset (gset (gset γ' i (some (xdD xd))) j (some (xdD xd))) i none) M' } γ M := propext Iff.rfl
theorem e_xxx (M : Mem) (Xd : DX) (γ : Gm) (xd : XD) (M' : Mem) : (xEnds M Xd).xx γ xd M' = finX M Xd xd M' := propext Iff.rfl
theorem e_xnx (M : Mem) (Xd : DX) (γ : Gm) (M' : Mem) : (xEnds M Xd).nx γ M' = False := propext Iff.rfl
theorem e_xrt (M : Mem) (Xd : DX) (d : D) (M' : Mem) : (xEnds M Xd).rt d M' = False := propext Iff.rfl
theorem f_nEx {c : Str} {v : D} : isNon (.exn c v) = false := id rfl
theorem f_nE0 {c : Str} : isNon (.exn0 c) = false := id rfl
theorem f_tyD {ks : List Key} {ds : List D} : tyD (.dct ks ds) = some .dct := id rfl
theorem f_nD {ks : List Key} {ds : List D} : isNon (.dct ks ds) = false := id rfl
theorem f_wD {ks : List Key} {ds : List D} : isIntD (.dct ks ds) = false := id rfl
theorem f_wLn {t p o : Int} : isIntD (.ln t p o) = false := id rfl
theorem xd_val (f : D) (c : Str) (h : noFld c = false) : xdD ⟨c, f⟩ = .exn c f := by
  unfold xdD
  rw [if_neg (by rw [h]; decide)]
/-! ### a loop over a written list, step by step -/
def unrollL (g : DG) (b : DS) (Ed : DEnds) : List D → Gm → Mem → Prop
  | [], γ, M => Ed.nx γ M
  | d :: ds, γ, M => g d γ M fun γ2 M2 => b { Ed with nx := unrollL g b Ed ds, ct := unrollL g b Ed ds, bk := Ed.nx } γ2 M2
theorem unrollL_nil (g : DG) (b : DS) (Ed : DEnds) (γ : Gm) (M : Mem) : unrollL g b Ed [] γ M = Ed.nx γ M := by rw [unrollL]
theorem unrollL_cons (g : DG) (b : DS) (Ed : DEnds) (d : D) (ds : List D) (γ : Gm) (M : Mem) : unrollL g b Ed (d :: ds) γ M = g d γ M fun γ2 M2 => b { Ed with nx := unrollL g b Ed ds, ct := unrollL g b Ed ds, bk := Ed.nx } γ2 M2 := by rw [unrollL]
theorem vfor_unroll {ve : DE} {g : DG} {b : DS} {Ed : DEnds} {γ : Gm} {M M1 : Mem} (ds : List D) (hve : ∀ F : DR, F (.lst ds) M1 → ve γ M F) (h : unrollL g b Ed ds γ M1) : vFor (wList ve) g b Ed γ M := by
  refine hve _ ⟨fun i γ' M' => unrollL g b Ed (ds.drop i) γ' M', h, fun _ _ _ _ => rfl, fun i d γ' M' hw hd => ?_, fun γ' M' hw => ?_⟩
  · have hd' : ds[i]? = some d := hd
    have hi : i < ds.length := (List.getElem?_eq_some_iff.mp hd').1
    have e : ds.drop i = d :: ds.drop (i + 1) := by
      rw [List.drop_eq_getElem_cons hi]
      rw [(List.getElem?_eq_some_iff.mp hd').2]
    have hw' : unrollL g b Ed (ds.drop i) γ' M' := hw
    rw [e, unrollL_cons] at hw'
    exact hw'
  · have e : ds.drop ds.length = [] := List.drop_length
    have hw' : unrollL g b Ed (ds.drop ds.length) γ' M' := hw
    rw [e, unrollL_nil] at hw'
    exact hw'
/-! ### isinstance with a built-in type, lines too -/
section
variable {X : Cx} {C : Addr} {e : Expr} {x : Str} {p pos : Pos}
def subO (T : Ty) : Option Ty → Bool
  | some t => t.sub T
  | none => false
theorem f_subO (t T : Ty) : subO T (some t) = t.sub T := id rfl
theorem f_subN (T : Ty) : subO T none = false := id rfl
def vIsiL (T : Ty) (a : DE) : DE := fun γ M R => a γ M fun d M1 => tyL d = true ∧ R (.bl (subO T (tyD d))) M1
theorem e_vIsiL (T : Ty) (a : DE) (γ : Gm) (M : Mem) (R : DR) : vIsiL T a γ M R = (a γ M fun d M1 => tyL d = true ∧ R (.bl (subO T (tyD d))) M1) := propext Iff.rfl
theorem f_tyLn {t p o : Int} : tyD (.ln t p o) = none := id rfl
theorem l_non : isLn .non = false := id rfl
theorem l_bl {b : Bool} : isLn (.bl b) = false := id rfl
theorem l_int {i : Int} : isLn (.int i) = false := id rfl
theorem l_str {s : Str} : isLn (.str s) = false := id rfl
theorem l_tup {xs : List D} : isLn (.tup xs) = false := id rfl
theorem l_lst {xs : List D} : isLn (.lst xs) = false := id rfl
theorem l_scr {xs : List Int} : isLn (.scr xs) = false := id rfl
theorem l_own {a : Addr} : isLn (.own a) = false := id rfl
theorem l_dct {ks : List Key} {xs : List D} : isLn (.dct ks xs) = false := id rfl
theorem t_ln {t p o : Int} : tyL (.ln t p o) = true := id rfl
theorem t_non : tyL .non = true := id rfl
theorem t_bl {b : Bool} : tyL (.bl b) = true := id rfl
theorem t_int {i : Int} : tyL (.int i) = true := id rfl
theorem t_str {s : Str} : tyL (.str s) = true := id rfl
theorem t_tup {xs : List D} : tyL (.tup xs) = true := id rfl
theorem t_lst {xs : List D} : tyL (.lst xs) = true := id rfl
theorem t_own {a : Addr} : tyL (.own a) = false := id rfl
theorem t_dct {ks : List Key} {xs : List D} : tyL (.dct ks xs) = true := id rfl
theorem q_isiL (T : Ty) {y : Str} {v : DE} {p2 : Pos} (I : IsiF X.K X.mg C) (ha : QE X C e v) (hg : Gl X x) (hm : X.mg x = none) (hv : bootBuiltins x = some (.builtin "isinstance")) (hg2 : Gl X y) (hm2 : X.mg y = none) (hv2 : bootBuiltins y = some (.type T.nm)) (hn : x ≠ "__name__" := by decide) (hdb : (x == ("__debug__" : Str)) = false := by decide)
    (hn2 : y ≠ "__name__" := by decide) (hdb2 : (y == ("__debug__" : Str)) = false := by decide)
    (he : starEach (e :: [.Name y p2]) X.env = (false, eval e X.env) :: starEach [.Name y p2] X.env := by rfl) (he2 : starEach [.Name y p2] X.env = (false, eval (.Name y p2) X.env) :: starEach [] X.env := by rfl) (hpl : (backTo pos (starEach [.Name y p2] X.env)).any (·.1) = false := by rfl) : QE X C (.Call (.Name x p) [e, .Name y p2] [] pos) (vIsiL T v) := by
  obtain ⟨ta, pa, sa⟩ := ha.ex
  refine ⟨_, pe_callB call_isi hg hm hv (pa_cons pa (pa_cons (pe_bltn (v := .ty T.nm) hg2 hm2 hv2 rfl hn2 hdb2) pa_nil he2) he) hn hdb he hpl, fun γ M R σ H Q re h k => sa γ M _ σ H _ re h fun d M1 x1 H1 o1 i1 e1 h1 => ?_⟩
  obtain ⟨h0, h1⟩ := h1
  cases q : tyD d with
  | none =>
    cases d with
    | ln t q o =>
      have i2 := i1
      unfold Is at i2
      obtain ⟨a, dx, q2, ex, ma, hx, mq, hq⟩ := i2
      refine ⟨x1, .ty T.nm, .ref C, _, false, rfl, .ty _, ?_, I.no2 T, k _ M1 _ H1 o1 is_bl e1 h1⟩
      rw [ex]; exact .base (.ins hx I.cls I.attr I.get I.tak I.top)
    | scr _ => exact absurd h0 Bool.false_ne_true
    | own _ => exact absurd h0 Bool.false_ne_true
    | exn _ _ => exact absurd h0 Bool.false_ne_true
    | exn0 _ => exact absurd h0 Bool.false_ne_true
    | cls => exact absurd h0 Bool.false_ne_true
    | _ => cases q
  | some t =>
    rw [q] at h1
    exact ⟨x1, .ty T.nm, _, _, t.sub T, rfl, .ty _, tyD_ok o1 i1 q, kit_ty (kit_sub t T), k _ M1 _ H1 o1 is_bl e1 h1⟩
end
end Dl
namespace Dl
open PySem L2
/-! ### names from a list, owned or not -/
section
variable {X : Cx} {C : Addr} {pos : Pos}
def dSeqL (n : Nat) (gs : DGs) : DG := fun d γ M R => isTup d = false ∧ match seqI M d with
  | some ds => ds.length = n ∧ gs ds γ M R
  | none => False
theorem e_dSeqL (n : Nat) (gs : DGs) (d : D) (γ : Gm) (M : Mem) (R : Gm → Mem → Prop) : dSeqL n gs d γ M R = (isTup d = false ∧ match seqI M d with
  | some ds => ds.length = n ∧ gs ds γ M R
  | none => False) := propext Iff.rfl
theorem qg_seq {es : List Expr} {k : Nat} {gs : DGs} {n : Nat} (h : QGs X C es gs) (hc : X.calm = true := by rfl) (hn : (assignEach es X.env).length = n := by rfl) (hst : (assignEach es X.env).findIdx? (·.1) = none := by rfl) : QG X C (.Tuple es k pos) (dSeqL n gs) := by
  obtain ⟨t, p, s⟩ := h.ex
  refine ⟨_, pg_unl hc p hn hst, fun d γ M R σ H x Q r i1 h k => ?_⟩
  obtain ⟨nt, h⟩ := h
  cases q : seqI M d with
  | none => rw [q] at h; exact h.elim
  | some ds =>
    rw [q] at h
    obtain ⟨a, xs, ex, l, sq⟩ := seq_at r.ow i1 q
    rcases sq with ⟨_, sq⟩ | ⟨z, _⟩
    · exact ⟨a, xs, ex, sq, by rw [← l.len]; exact h.1, s ds γ M R σ H xs Q r l h.2 k⟩
    · rw [nt] at z; cases z
end
end Dl
namespace Dl
open PySem L2
/-! ### tuple(x) -/
section
variable {X : Cx} {C : Addr} {e : Expr} {ve : DE} {p pos : Pos}
def vTupOf (ve : DE) : DE := fun γ M R => ve γ M fun d M1 => match isTup d, seqI M1 d with
  | true, some _ => R d M1
  | false, some ds => R (.tup ds) M1
  | _, none => False
theorem e_vTupOf (ve : DE) (γ : Gm) (M : Mem) (R : DR) : vTupOf ve γ M R = (ve γ M fun d M1 => match isTup d, seqI M1 d with
  | true, some _ => R d M1
  | false, some ds => R (.tup ds) M1
  | _, none => False) := propext Iff.rfl
theorem q_tupOf (ha : QE X C e ve) (hm : X.mg "tuple" = none) (hg : Gl X "tuple" := by rfl) (na : starEach [e] X.env = (false, eval e X.env) :: starEach [] X.env := by rfl) : QE X C (.Call (.Name "tuple" p) [e] [] pos) (vTupOf ve) := by
  obtain ⟨ta, pa, sa⟩ := ha.ex
  refine ⟨_, pe_tupleOf hg hm pa na, fun γ M R σ H Q r h k => sa γ M _ σ H _ r h fun d M1 x1 H1 o1 i1 e1 h1 => ?_⟩
  cases es : seqI M1 d with
  | none => rw [es] at h1; cases z : isTup d <;> (rw [z] at h1; exact h1.elim)
  | some ds =>
    rw [es] at h1
    obtain ⟨a, us, e3, l, s⟩ := seq_at o1 i1 es
    rcases s with ⟨z, s⟩ | ⟨z, s⟩
    · rw [z] at h1
      exact .inl ⟨a, us, e3, s, fun q hq => k _ M1 _ _ (o1.new hq) (new_tup o1 hq l) (e1.trans (Ext.new hq)) h1⟩
    · rw [z] at h1
      refine .inr ⟨a, us, e3, s, ?_⟩
      rw [← e3]
      exact k _ M1 _ _ o1 i1 e1 h1
end
theorem tupOf_own {M : Mem} {R : DR} {a : Addr} {ds : List D} (h : M a = some (.lst ds)) (k : R (.tup ds) M) : (match isTup (.own a), seqI M (.own a) with
  | true, some _ => R (.own a) M
  | false, some ds => R (.tup ds) M
  | _, none => False) := by
  have e : seqI M (.own a) = some ds := seqI_own h
  rw [e]
  exact k
theorem tupOf_lst {M : Mem} {R : DR} {ds : List D} (k : R (.tup ds) M) : (match isTup (.lst ds), seqI M (.lst ds) with
  | true, some _ => R (.lst ds) M
  | false, some ds => R (.tup ds) M
  | _, none => False) := k
theorem vfor_unrollT {ve : DE} {g : DG} {b : DS} {Ed : DEnds} {γ : Gm} {M M1 : Mem} (ds : List D) (hve : ∀ F : DR, F (.tup ds) M1 → ve γ M F) (h : unrollL g b Ed ds γ M1) : vFor (wTup ve) g b Ed γ M := by
  refine vfor_tup ds hve (fun i γ' M' => unrollL g b Ed (ds.drop i) γ' M') h (fun i d γ' M' hw hd' => ?_) (fun γ' M' hw => ?_)
  · have hi : i < ds.length := (List.getElem?_eq_some_iff.mp hd').1
    have e : ds.drop i = d :: ds.drop (i + 1) := by
      rw [List.drop_eq_getElem_cons hi]
      rw [(List.getElem?_eq_some_iff.mp hd').2]
    have hw' : unrollL g b Ed (ds.drop i) γ' M' := hw
    rw [e, unrollL_cons] at hw'
    exact hw'
  · have e : ds.drop ds.length = [] := List.drop_length
    have hw' : unrollL g b Ed (ds.drop ds.length) γ' M' := hw
    rw [e, unrollL_nil] at hw'
    exact hw'
end Dl
namespace Dl
open PySem L2
/-! ### a bool: is True, is not True -/
def oIsB (f : Bool → Bool) : DO := fun d e M R => match d, e with
  | .bl a, .bl true => R (.bl (f a)) M
  | _, _ => False
theorem f_isB {f : Bool → Bool} {a : Bool} {M : Mem} {R : DR} : oIsB f (.bl a) (.bl true) M R = R (.bl (f a)) M := rfl
def rIsB (f : Bool → Bool) : R2 := fun x y H Q => ∃ a, x = .bl a ∧ y = .bl true ∧ Q (.bl (f a)) H
section
variable {X : Cx} {C : Addr}
theorem op_isB : OpR X (compareOp .Is) (rIsB id) := by
  intro pins s σ H x y v u Q I rx ry h
  obtain ⟨a, rfl, rfl, q⟩ := h
  cases rx
  cases ry
  cases a
  · exact wpAny_of_eq (rfl : compareOp .Is (.bool false) (.bool true) = pure (.bool false)) ⟨.bl _, H, I, rfl, q⟩
  · exact wpAny_of_eq (rfl : compareOp .Is (.bool true) (.bool true) = pure (.bool true)) ⟨.bl _, H, I, rfl, q⟩
theorem op_isnB : OpR X (compareOp .IsNot) (rIsB Bool.not) := by
  intro pins s σ H x y v u Q I rx ry h
  obtain ⟨a, rfl, rfl, q⟩ := h
  cases rx
  cases ry
  cases a
  · exact wpAny_of_eq (rfl : compareOp .IsNot (.bool false) (.bool true) = pure (.bool true)) ⟨.bl _, H, I, rfl, q⟩
  · exact wpAny_of_eq (rfl : compareOp .IsNot (.bool true) (.bool true) = pure (.bool false)) ⟨.bl _, H, I, rfl, q⟩
theorem sndO_isB {G : Gx} {f : Bool → Bool} : SndO G (rIsB f) (oIsB f) := fun d e M R H x y Q o i1 i2 h k => by
  unfold oIsB at h
  split at h
  · unfold Is at i1 i2
    exact ⟨_, i1, i2, k _ M _ H o is_bl Ext.refl h⟩
  · exact h.elim
theorem c_isB : CmpQ X C .Is (oIsB id) := ⟨_, op_isB, sndO_isB⟩
theorem c_isnB : CmpQ X C .IsNot (oIsB Bool.not) := ⟨_, op_isnB, sndO_isB⟩
/-! ### a part of a tuple (not the whole) -/
variable {a : Expr} {va : DE} {pos : Pos}
def vSlT (a : DE) (l h : DPt) : DE := fun γ M R => a γ M fun d M1 => l γ M1 fun lo M2 => h γ M2 fun hi M3 => isTup d = true ∧ match seqI M3 d with
  | some ds => (HT.sIx ds.length 0 lo == 0 && HT.sIx ds.length ds.length hi == ds.length) = false ∧ R (.tup (cutD ds lo hi)) M3
  | none => False
theorem e_vSlT (a : DE) (l h : DPt) (γ : Gm) (M : Mem) (R : DR) : vSlT a l h γ M R = (a γ M fun d M1 => l γ M1 fun lo M2 => h γ M2 fun hi M3 => isTup d = true ∧ match seqI M3 d with
  | some ds => (HT.sIx ds.length 0 lo == 0 && HT.sIx ds.length ds.length hi == ds.length) = false ∧ R (.tup (cutD ds lo hi)) M3
  | none => False) := propext Iff.rfl
theorem q_slT {lo hi : Option Expr} {vl vh : DPt} {p2} (ha : QE X C a va) (hl : QO X C lo vl) (hh : QO X C hi vh) : QE X C (.Subscript a (.Slice lo hi none p2) pos) (vSlT va vl vh) := by
  obtain ⟨ta, pa, sa⟩ := ha.ex
  obtain ⟨tl, pl, sl⟩ := hl.ex
  obtain ⟨th, ph, sh⟩ := hh.ex
  refine ⟨_, pe_slice sl_tup pa pl ph, fun γ M R σ H Q re h k => sa γ M _ σ H _ re h fun d M1 x H1 o1 i1 e1 h1 => sl γ M1 _ σ H1 _ (re.mk' e1 o1) h1 fun u M2 H2 o2 e2 h2 => sh γ M2 _ σ H2 _ (re.mk' (e1.trans e2) o2) h2 fun w M3 H3 o3 e3 h3 => ?_⟩
  obtain ⟨nt, h3⟩ := h3
  cases q : seqI M3 d with
  | none => rw [q] at h3; exact h3.elim
  | some ds =>
    rw [q] at h3
    obtain ⟨nw, h3⟩ := h3
    obtain ⟨p, xs, e4, l, s⟩ := seq_at o3 (Is.ext (e2.trans e3) d x i1) q
    rcases s with ⟨z, _⟩ | ⟨_, s⟩
    · rw [nt] at z; cases z
    · refine ⟨p, xs, e4, s, fun ⟨w1, w2⟩ => ?_, fun n hn => k _ M3 _ _ (o3.new hn) (new_tup o3 hn (isL_cut l u w)) (((e1.trans e2).trans e3).trans (Ext.new hn)) h3⟩
      rw [← l.len] at w1 w2
      rw [w1, w2] at nw
      simp at nw
/-! ### a or b: None, a bool or a tuple -/
variable {b : Expr} {rest : List Expr} {vb : DE}
def vOrT (a b : DE) : DE := fun γ M R => a γ M fun d M1 => match d with
  | .non => b γ M1 R
  | .bl k => (k = true → R (.bl true) M1) ∧ (k = false → b γ M1 R)
  | .tup (x :: xs) => R (.tup (x :: xs)) M1
  | _ => False
theorem e_vOrT (a b : DE) (γ : Gm) (M : Mem) (R : DR) : vOrT a b γ M R = (a γ M fun d M1 => match d with
  | .non => b γ M1 R
  | .bl k => (k = true → R (.bl true) M1) ∧ (k = false → b γ M1 R)
  | .tup (x :: xs) => R (.tup (x :: xs)) M1
  | _ => False) := propext Iff.rfl
theorem q_orT (ha : QE X C a va) (hb : QE X C (.BoolOp .Or (b :: rest) pos) vb) : QE X C (.BoolOp .Or (a :: b :: rest) pos) (vOrT va vb) := by
  obtain ⟨ta, pa, sa⟩ := ha.ex
  obtain ⟨tb, pb, sb⟩ := hb.ex
  refine ⟨_, pe_orT pa pb, fun γ M R σ H Q re h k => sa γ M _ σ H _ re h fun d M1 x H1 o1 i1 e1 h1 => ?_⟩
  have go : ∀ {h : vb γ M1 R}, tb σ H1 Q := fun {h} => sb γ M1 R σ H1 Q (re.mk' e1 o1) h fun d2 M2 x2 H2 o2 i2 e2 h2 => k d2 M2 x2 H2 o2 i2 (e1.trans e2) h2
  cases d with
  | non =>
    unfold Is at i1
    subst i1
    exact ⟨false, rfl, by rw [if_neg Bool.false_ne_true]; exact go (h := h1)⟩
  | bl c =>
    unfold Is at i1
    subst i1
    refine ⟨c, rfl, ?_⟩
    cases c with
    | false => rw [if_neg Bool.false_ne_true]; exact go (h := h1.2 rfl)
    | true => rw [if_pos rfl]; exact k _ M1 _ H1 o1 is_bl e1 (h1.1 rfl)
  | tup ds =>
    cases ds with
    | nil => exact h1.elim
    | cons z zs =>
      obtain ⟨p, xs, e3, l, s⟩ := seq_at o1 i1 (show seqI M1 (.tup (z :: zs)) = some (z :: zs) from rfl)
      have ln := l.len
      rcases s with ⟨y, _⟩ | ⟨_, s⟩
      · cases y
      · refine ⟨true, ?_, by rw [if_pos rfl]; exact k _ M1 _ H1 o1 i1 e1 h1⟩
        rw [e3]
        refine .inr (.inl ⟨xs, s, ?_⟩)
        cases xs with
        | nil => simp at ln
        | cons _ _ => rfl
  | _ => exact h1.elim
end
theorem pk32 {α : Type} {a b c d e : α} : pickL [0, 1, 2, 3, 4] [a, b, c] [d, e] = [a, b, c, d, e] := rfl
theorem pk42 {α : Type} {a b c d e f : α} : pickL [0, 1, 2, 3, 4, 5] [a, b, c, d] [e, f] = [a, b, c, d, e, f] := rfl
theorem pk52 {α : Type} {a b c d e f g : α} : pickL [0, 1, 2, 3, 4, 5, 6] [a, b, c, d, e] [f, g] = [a, b, c, d, e, f, g] := rfl
/-! ### keywords, some of them lacking -/
section
variable {P : Program} {w : World} {K : PySem.W.Frag} {mg : Str → Option Value} {base : Heap} {x qual : Str} {params : Arguments} {body : List Stmt} {scope : Scope} {kws : List (Str × V)} {f : Addr} {fd : FuncData} {ps : List Str} {C : Addr} {k n : Nat} {S : DSp}
theorem call_kwm (np : Nat) (ks : List Str) (ix : List Nat) (ms : List (Str × V)) (mdd : List D) (G : mg x = some (.ref f)) (F : FunD K x qual params body scope [] kws f fd) (ok : FnOk P w K mg base CX0 k f fd ps (spD ⟨K, C⟩ n S)) (hk : kws ≠ []) (hms : ∀ q ∈ ms, q ∈ kws) (hdd : constL mdd = some (ms.map (·.2)))
    (h : ∀ (Dd : Addr) (doc pm : Value) (an : Option Addr) (cdv ct : Value) (us mv ws : List Value), us.length = np → mv.length = ms.length → ws.length = ks.length →
      KwChain Dd ((ms.map (·.1)).zip mv) (bindArgs (PySem.W.fnOf x qual params body scope .none (.ref Dd) doc pm an cdv ct) ⟨us, ks.zip ws⟩) (ps.zip (pickL ix (us ++ mv) ws))) : KCallOk P w K mg base C k x n S np ks (fun us ws => pickL ix (us ++ mdd) ws) := by
  obtain ⟨mv, kb⟩ := F.kbinds0 np ks ms (fun {α} us mv ws => pickL ix (us ++ mv) ws) hk hms (fun r1 r2 r3 => pick_vals (r1.append r2) r3 ix) h
  exact ⟨f, fd, ps, _, _, G, F.kp, ok, kb, fun M H ds zs vs us r s => pick_isL (r.append (constL_ok hdd)) s ix⟩
end
end Dl
namespace Dl
open PySem L2
/-! ### owned objects: fields, methods, making -/
def putD : Nat → D → List D → List D
  | _, d, [] => [d]
  | 0, d, _ :: r => d :: r
  | n + 1, d, x :: r => x :: putD n d r
theorem putD_nil {n : Nat} {d : D} : putD n d [] = [d] := by cases n <;> rfl
theorem putD_z {d x : D} {r : List D} : putD 0 d (x :: r) = d :: r := rfl
theorem putD_s {n : Nat} {d x : D} {r : List D} : putD (n + 1) d (x :: r) = x :: putD n d r := rfl
def putV : Nat → V → List V → List V
  | _, v, [] => [v]
  | 0, v, _ :: r => v :: r
  | n + 1, v, x :: r => x :: putV n v r
/-- what may stand in a field -/
def fldD : D → Bool
  | .own _ => true
  | d => pureD d
/-- what is read from a field: an owned thing must be owned on -/
def okF (M : Mem) : D → Prop
  | .own b => (M b).isSome = true
  | _ => True
theorem fisL_get {G : Gx} {M : Mem} {H : Hp} : ∀ {ds : List D} {vs : List V} {i : Nat} {d : D}, FIsL G M H ds vs → nthD ds i = some d → ∃ v, vs[i]? = some v ∧ FIs G M H d v
  | [], _, _, _, _, e => by simp [nthD] at e
  | _ :: _, [], _, _, h, _ => h.elim
  | d :: ds, v :: vs, 0, d', h, e => by
    have e' : some d = some d' := e
    cases e'
    exact ⟨v, by simp, h.1⟩
  | _ :: ds, _ :: vs, i + 1, d, h, e => by
    obtain ⟨u, h1, h2⟩ := fisL_get (i := i) (d := d) h.2 e
    exact ⟨u, by simpa using h1, h2⟩
theorem fisL_len {G : Gx} {M : Mem} {H : Hp} : ∀ {ds : List D} {vs : List V}, FIsL G M H ds vs → ds.length = vs.length
  | [], [], _ => rfl
  | [], _ :: _, h => h.elim
  | _ :: _, [], h => h.elim
  | _ :: _, _ :: _, h => congrArg Nat.succ (fisL_len h.2)
theorem fisL_put {G : Gx} {M : Mem} {H : Hp} : ∀ {ds : List D} {vs : List V} {i : Nat} {d : D} {v : V}, FIsL G M H ds vs → FIs G M H d v → FIsL G M H (putD i d ds) (putV i v vs)
  | [], [], i, d, v, _, e => by cases i <;> exact ⟨e, trivial⟩
  | [], _ :: _, _, _, _, h, _ => h.elim
  | _ :: _, [], _, _, _, h, _ => h.elim
  | _ :: _, _ :: _, 0, _, _, h, e => ⟨e, h.2⟩
  | _ :: _, _ :: _, i + 1, _, _, h, e => ⟨h.1, fisL_put (i := i) h.2 e⟩
theorem putD_len : ∀ {ds : List D} {i : Nat} {d : D} {n : Nat}, i ≤ ds.length → i < n → ds.length ≤ n → (putD i d ds).length ≤ n
  | [], i, d, n, _, h, _ => by rw [putD_nil]; simp; omega
  | _ :: r, 0, d, n, _, _, h => h
  | _ :: r, i + 1, d, n, hi, hn, h => by
    rw [putD_s]
    have := putD_len (ds := r) (i := i) (d := d) (n := n - 1) (by simpa using hi) (by omega) (by simp at h; omega)
    simp; omega
theorem zip_get : ∀ {ns : List Str} {vs : List V} {i : Nat} {f : Str} {v : V}, ns.Nodup → ns[i]? = some f → vs[i]? = some v → (ns.zip vs).lookup f = some v
  | [], _, _, _, _, _, h, _ => by simp at h
  | _ :: _, [], _, _, _, _, _, h => by simp at h
  | n :: ns, x :: vs, 0, f, v, _, h, h' => by
    simp at h h'
    subst h; subst h'
    simp [List.lookup_cons]
  | n :: ns, x :: vs, i + 1, f, v, nd, h, h' => by
    have hn : f ∈ ns := List.mem_of_getElem? (by simpa using h)
    have ne : f ≠ n := fun e => (List.nodup_cons.mp nd).1 (e ▸ hn)
    show List.lookup f ((n, x) :: ns.zip vs) = _
    rw [List.lookup_cons, beq_eq_false_iff_ne.mpr ne]
    exact zip_get (List.nodup_cons.mp nd).2 (by simpa using h) (by simpa using h')
theorem zip_none : ∀ {ns : List Str} {vs : List V} {f : Str}, f ∉ ns → (ns.zip vs).lookup f = none
  | [], _, _, _ => by simp
  | _ :: _, [], _, _ => by simp
  | n :: ns, x :: vs, f, h => by
    simp only [List.mem_cons, not_or] at h
    show List.lookup f ((n, x) :: ns.zip vs) = _
    rw [List.lookup_cons, beq_eq_false_iff_ne.mpr h.1]
    exact zip_none h.2
theorem zip_put : ∀ {ns : List Str} {vs : List V} {i : Nat} {f : Str} {v : V}, ns.Nodup → ns[i]? = some f → i ≤ vs.length → putF f v (ns.zip vs) = ns.zip (putV i v vs)
  | [], _, _, _, _, _, h, _ => by simp at h
  | n :: ns, [], i, f, v, _, h, hi => by
    have e0 : i = 0 := by simpa using hi
    subst e0
    simp at h
    subst h
    show putF n v [] = (n, v) :: ns.zip []
    simp [putF]
  | n :: ns, x :: vs, 0, f, v, _, h, _ => by
    simp at h
    subst h
    show (if n = n then (n, v) :: ns.zip vs else _) = _
    rw [if_pos rfl]; rfl
  | n :: ns, x :: vs, i + 1, f, v, nd, h, hi => by
    have hn : f ∈ ns := List.mem_of_getElem? (by simpa using h)
    have ne : n ≠ f := fun e => (List.nodup_cons.mp nd).1 (e ▸ hn)
    show (if n = f then (n, v) :: ns.zip vs else (n, x) :: putF f v (ns.zip vs)) = _
    rw [if_neg ne, zip_put (List.nodup_cons.mp nd).2 (by simpa using h) (by simpa using hi)]
    rfl
/-- the class is one of those with changing objects -/
structure OCls (K : PySem.W.Frag) (c : Str) : Prop where
  cls : Cls K (He.ga K c)
  no : ∀ f ∈ clsF c, NoAttr K (He.ga K c) f
  nd : (clsF c).Nodup
  few : (clsF c).length < 999
theorem own_obj {G : Gx} {M : Mem} {H : Hp} {a : Addr} {c : Str} {ds : List D} (o : Own G M H) (h : M a = some (.obj c ds)) : ds.length ≤ (clsF c).length ∧ ∃ dx vs, H a = some (.ins (He.ga G.K c) dx ((clsF c).zip vs)) ∧ FIsL G M H ds vs := o a _ h
theorem Own.putObj {G : Gx} {M : Mem} {H : Hp} {p dx : Addr} {c : Str} {ds : List D} {vs : List V} (o : Own G M H) (h : (M p).isSome = true) (hl : ds.length ≤ (clsF c).length) (hv : FIsL G M H ds vs) : Own G (mset M p (.obj c ds)) (upd H p (.ins (He.ga G.K c) dx ((clsF c).zip vs))) :=
  o.setM (Ext.put h) ⟨hl, dx, vs, upd_same, FIsL.ext (Ext.put h) ds vs hv⟩
/-- o.f, the i-th field of an object of class c -/
def vFldO (c : Str) (i : Nat) (o : DE) : DE := fun γ M R => o γ M fun od M1 => match od with
  | .own x => (match M1 x with
    | some (.obj c' ds) => c' = c ∧ (match nthD ds i with
      | some d => okF M1 d ∧ R d M1
      | none => False)
    | _ => False)
  | _ => False
theorem e_vFldO (c : Str) (i : Nat) (o : DE) (γ : Gm) (M : Mem) (R : DR) : vFldO c i o γ M R = (o γ M fun od M1 => match od with
  | .own x => (match M1 x with
    | some (.obj c' ds) => c' = c ∧ (match nthD ds i with
      | some d => okF M1 d ∧ R d M1
      | none => False)
    | _ => False)
  | _ => False) := propext Iff.rfl
/-- o.f = e -/
def vSetF (c : Str) (i : Nat) (o e : DE) : DS := fun Ed γ M => e γ M fun d M1 => o γ M1 fun od M2 => match od with
  | .own x => (match M2 x with
    | some (.obj c' ds) => c' = c ∧ i ≤ ds.length ∧ fldD d = true ∧ Ed.nx γ (mset M2 x (.obj c (putD i d ds)))
    | _ => False)
  | _ => False
theorem e_vSetF (c : Str) (i : Nat) (o e : DE) (Ed : DEnds) (γ : Gm) (M : Mem) : vSetF c i o e Ed γ M = (e γ M fun d M1 => o γ M1 fun od M2 => match od with
  | .own x => (match M2 x with
    | some (.obj c' ds) => c' = c ∧ i ≤ ds.length ∧ fldD d = true ∧ Ed.nx γ (mset M2 x (.obj c (putD i d ds)))
    | _ => False)
  | _ => False) := propext Iff.rfl
/-- o.f += e, the field an owned list -/
def vAugF (c : Str) (i : Nat) (o e : DE) : DS := fun Ed γ M => o γ M fun od M1 => match od with
  | .own x => (match M1 x with
    | some (.obj c' ds) => c' = c ∧ (match nthD ds i with
      | some (.own b) => (M1 b).isSome = true ∧ e γ M1 fun d M2 => (match lstI M2 d, M2 b with
        | some ys, some (.lst xs) => pureL ys = true ∧ xs.length + ys.length ≤ sizeLine ∧ (match mset M2 b (.lst (xs ++ ys)) x with
          | some (.obj c2 es) => c2 = c ∧ i ≤ es.length ∧ Ed.nx γ (mset (mset M2 b (.lst (xs ++ ys))) x (.obj c (putD i (.own b) es)))
          | _ => False)
        | _, _ => False)
      | _ => False)
    | _ => False)
  | _ => False
theorem e_vAugF (c : Str) (i : Nat) (o e : DE) (Ed : DEnds) (γ : Gm) (M : Mem) : vAugF c i o e Ed γ M = (o γ M fun od M1 => match od with
  | .own x => (match M1 x with
    | some (.obj c' ds) => c' = c ∧ (match nthD ds i with
      | some (.own b) => (M1 b).isSome = true ∧ e γ M1 fun d M2 => (match lstI M2 d, M2 b with
        | some ys, some (.lst xs) => pureL ys = true ∧ xs.length + ys.length ≤ sizeLine ∧ (match mset M2 b (.lst (xs ++ ys)) x with
          | some (.obj c2 es) => c2 = c ∧ i ≤ es.length ∧ Ed.nx γ (mset (mset M2 b (.lst (xs ++ ys))) x (.obj c (putD i (.own b) es)))
          | _ => False)
        | _, _ => False)
      | _ => False)
    | _ => False)
  | _ => False) := propext Iff.rfl
/-- a method that may be called, dd its defaults -/
structure MOkO (P : Program) (w : World) (K : PySem.W.Frag) (mg : Str → Option Value) (base : Heap) (C : Addr) (k : Nat) (c m : Str) (n : Nat) (S : DSp) (dd : List D) : Prop where
  ex : ∃ (f : Addr) (fd : FuncData) (ps : List Str) (us : List Value) (dv : List V), OCls K c ∧ Meth K (He.ga K c) m f ∧ m ∉ clsF c ∧ FnOk P w K mg base CX0 k f fd ps (spD ⟨K, C⟩ n S) ∧ Binds K fd ps us ∧ Vals dv us ∧ constL dd = some dv
/-- o.m(..) of an owned object -/
def vObjO (c : Str) (n : Nat) (S : DSp) (dd : List D) (o : DE) (a : DA) : DE := fun γ M R => o γ M fun od M1 => match od with
  | .own x => (match M1 x with
    | some (.obj c' _) => c' = c ∧ a γ M1 fun ds M2 => (ds ++ dd).length + 1 = n ∧ S (.own x :: (ds ++ dd)) M2 R noX
    | _ => False)
  | _ => False
theorem e_vObjO (c : Str) (n : Nat) (S : DSp) (dd : List D) (o : DE) (a : DA) (γ : Gm) (M : Mem) (R : DR) : vObjO c n S dd o a γ M R = (o γ M fun od M1 => match od with
  | .own x => (match M1 x with
    | some (.obj c' _) => c' = c ∧ a γ M1 fun ds M2 => (ds ++ dd).length + 1 = n ∧ S (.own x :: (ds ++ dd)) M2 R noX
    | _ => False)
  | _ => False) := propext Iff.rfl
/-- C(..) -/
structure MkO (P : Program) (w : World) (K : PySem.W.Frag) (mg : Str → Option Value) (base : Heap) (C : Addr) (k : Nat) (c : Str) (n : Nat) (S : DSp) : Prop where
  ex : ∃ (f : Addr) (fd : FuncData) (ps : List Str), mg c = some (.ref (He.ga K c)) ∧ Mk K (He.ga K c) f ∧ FnOk P w K mg base CX0 k f fd ps (spD ⟨K, C⟩ n S) ∧ Binds K fd ps []
def vMakeO (c : Str) (n : Nat) (S : DSp) (a : DA) : DE := fun γ M R => a γ M fun ds M1 => ds.length + 1 = n ∧ ∀ x, M1 x = none → S (.own x :: ds) (mset M1 x (.obj c [])) (fun d M2 => d = .non ∧ R (.own x) M2) noX
theorem e_vMakeO (c : Str) (n : Nat) (S : DSp) (a : DA) (γ : Gm) (M : Mem) (R : DR) : vMakeO c n S a γ M R = (a γ M fun ds M1 => ds.length + 1 = n ∧ ∀ x, M1 x = none → S (.own x :: ds) (mset M1 x (.obj c [])) (fun d M2 => d = .non ∧ R (.own x) M2) noX) := propext Iff.rfl
section
variable {X : Cx} {C : Addr} {j k n : Nat} {S : DSp} {dd : List D} {o e fe : Expr} {es : List Expr} {vo ve : DE} {va : DA} {c m f : Str} {pos apos : Pos} {i : Nat}
theorem fis_is {G : Gx} {M : Mem} {H : Hp} {d : D} {v : V} (h : FIs G M H d v) (ok : okF M d) : Is G M H d v := by
  cases d with
  | own b => unfold Is; exact ⟨h, ok⟩
  | _ => exact h.2
theorem is_fis {G : Gx} {M : Mem} {H : Hp} {d : D} {v : V} (h : Is G M H d v) (p : fldD d = true) : FIs G M H d v := by
  cases d with
  | own b => unfold Is at h; exact h.1
  | _ => exact ⟨p, h⟩
theorem q_fldO (T : OCls X.K c) (i : Nat) (hf : (clsF c)[i]? = some f) (ho : QE X C o vo) (hb : attributeBase o f X.env (eval o X.env) = eval o X.env := by rfl) : QE X C (.Attribute o f pos) (vFldO c i vo) := by
  obtain ⟨to, po, so⟩ := ho.ex
  refine ⟨_, pe_fld po hb, fun γ M R σ H Q re h kk => so γ M _ σ H _ re h fun od M1 x H1 o1 i1 e1 h1 => ?_⟩
  cases od with
  | own a =>
    simp only at h1
    split at h1
    · rename_i c' ds q
      obtain ⟨rfl, h1⟩ := h1
      split at h1
      · rename_i d hd
        obtain ⟨ok, hr⟩ := h1
        obtain ⟨hl, dx, vs, ha, hv⟩ := own_obj o1 q
        obtain ⟨v, hv1, hv2⟩ := fisL_get hv hd
        unfold Is at i1
        exact ⟨a, _, dx, _, v, i1.1, ha, T.cls, T.no f (List.mem_of_getElem? hf), zip_get T.nd hf hv1, kk d M1 v H1 o1 (fis_is hv2 ok) e1 hr⟩
      · exact h1.elim
    · exact h1.elim
  | _ => exact False.elim h1
theorem qs_fldO (T : OCls X.K c) (i : Nat) (hf : (clsF c)[i]? = some f) (ho : QE X C o vo) (he : QE X C e ve) (hs : swapsWith e (some (.Attribute o f apos)) pos.line X.env = pure false := by rfl) : QS X C (.Assign [.Attribute o f apos] e pos) (vSetF c i vo ve) := by
  obtain ⟨to, po, so⟩ := ho.ex
  obtain ⟨te, pe, se⟩ := he.ex
  refine ⟨_, ps_fld po pe hs, fun Ed γ M σ H E r l h => se γ M _ σ H _ r h fun d M1 y H1 o1 i1 e1 h1 => so γ M1 _ σ H1 _ (r.mk' e1 o1) h1 fun od M2 x H2 o2 i2 e2 h2 => ?_⟩
  cases od with
  | own a =>
    simp only at h2
    split at h2
    · rename_i c' ds q
      obtain ⟨rfl, hi, pf, hn⟩ := h2
      obtain ⟨hl, dx, vs, ha, hv⟩ := own_obj o2 q
      have ho2 : (M2 a).isSome = true := by rw [q]; rfl
      unfold Is at i2
      have hfi : i < (clsF c').length := (List.getElem?_eq_some_iff.mp hf).1
      have hp := zip_put (v := y) T.nd hf (by rw [← fisL_len hv]; exact hi)
      have few := T.few
      refine ⟨a, _, dx, _, i2.1, ha, T.cls, T.no f (List.mem_of_getElem? hf), ?_, ?_⟩
      · rw [List.length_zip]; omega
      · rw [hp]
        have hd2 : FIs ⟨X.K, C⟩ M2 H2 d y := is_fis (Is.ext e2 _ _ i1) pf
        exact l.nx γ _ σ _ ⟨(r.sl.ext (e1.trans e2)).ext (Ext.put ho2), o2.putObj ho2 (putD_len hi hfi hl) (fisL_put hv hd2)⟩ ((e1.trans e2).trans (Ext.put ho2)) hn
    · exact h2.elim
  | _ => exact False.elim h2
theorem qs_augF (T : OCls X.K c) (i : Nat) (hf : (clsF c)[i]? = some f) (ho : QE X C o vo) (he : QE X C e ve) : QS X C (.AugAssign (.Attribute o f apos) .Add e pos) (vAugF c i vo ve) := by
  obtain ⟨to, po, so⟩ := ho.ex
  obtain ⟨te, pe, se⟩ := he.ex
  refine ⟨_, ps_fldaug po pe (rd := rExt2) (fun pins s σ H x y u v Q I r1 r2 h => iop_ext pins s σ H x y u v Q I r1 r2 h), fun Ed γ M σ H E r l h => so γ M _ σ H _ r h fun od M1 x H1 o1 i1 e1 h1 => ?_⟩
  cases od with
  | own a =>
    simp only at h1
    split at h1
    · rename_i c' ds q
      obtain ⟨rfl, h1⟩ := h1
      split at h1
      · rename_i b hd
        obtain ⟨ob, h1⟩ := h1
        obtain ⟨hl, dx, vs, ha, hv⟩ := own_obj o1 q
        obtain ⟨v, hv1, hv2⟩ := fisL_get hv hd
        obtain rfl : v = .ref b := hv2
        unfold Is at i1
        refine ⟨a, _, dx, _, _, i1.1, ha, T.cls, T.no f (List.mem_of_getElem? hf), zip_get T.nd hf hv1, se γ M1 _ σ H1 _ (r.mk' e1 o1) h1 fun d M2 y H2 o2 i2 e2 h2 => ?_⟩
        split at h2
        · rename_i ys xs ey ex
          obtain ⟨pu, hz, h2⟩ := h2
          obtain ⟨pu2, us, hb, hlb⟩ := o2 b _ ex
          obtain ⟨b2, ws, rfl, hl2, hb2⟩ := lst_at o2 i2 ey
          have ob2 : (M2 b).isSome = true := by rw [ex]; rfl
          have x3 : Ext M2 (mset M2 b (.lst (xs ++ ys))) H2 (upd H2 b (.lst (us ++ ws))) := Ext.put ob2
          have o3 := o2.put ob2 (pureL_append pu2 pu) (hlb.append hl2)
          refine ⟨b, b2, us, ws, rfl, rfl, hb, hb2, by rw [← hlb.len, ← hl2.len]; exact hz, ?_⟩
          split at h2
          · rename_i c2 es q3
            obtain ⟨rfl, hi, hn⟩ := h2
            obtain ⟨hl3, dx3, vs3, ha3, hv3⟩ := own_obj o3 q3
            have hfi : i < (clsF c2).length := (List.getElem?_eq_some_iff.mp hf).1
            have hp := zip_put (v := .ref b) T.nd hf (by rw [← fisL_len hv3]; exact hi)
            have few := T.few
            have ho3 : (mset M2 b (.lst (xs ++ ys)) a).isSome = true := by rw [q3]; rfl
            refine ⟨dx3, _, ha3, ?_, ?_⟩
            · rw [List.length_zip]; omega
            · rw [hp]
              have fb : FIs ⟨X.K, C⟩ (mset M2 b (.lst (xs ++ ys))) (upd H2 b (.lst (us ++ ws))) (.own b) (.ref b) := rfl
              exact l.nx γ _ σ _ ⟨((r.sl.ext (e1.trans e2)).ext x3).ext (Ext.put ho3), o3.putObj ho3 (putD_len hi hfi hl3) (fisL_put hv3 fb)⟩ (((e1.trans e2).trans x3).trans (Ext.put ho3)) hn
          · exact h2.elim
        · exact h2.elim
      · exact h1.elim
    · exact h1.elim
  | _ => exact False.elim h1
theorem q_methO (h : MOkO X.prog X.w X.K X.mg X.base C k c m n S dd) (hr : Room j X.A) (hkj : k ≤ j) (ho : QE X C o vo) (ha : QA X C (e :: es) va)
    (hpe : ∀ {C' f : Addr} {fd : FuncData} {ps : List Str} {sp : Sp} {to : TE} {ta : TA} {us : List Value} {dv : List V}, PE X o to → Cls X.K C' → Meth X.K C' m f → FnOk X.prog X.w X.K X.mg X.base CX0 k f fd ps sp → Room k X.A → Binds X.K fd ps us → Vals dv us → PA X (e :: es) ta → PE X (.Call (.Attribute o m apos) (e :: es) [] pos) (tMeth C' m sp dv E0 to ta) := by exact fun h1 h2 h3 h4 h5 h6 h7 h8 => pe_meth h1 h2 h3 h4 h5 h6 h7 pass0 h8) :
    QE X C (.Call (.Attribute o m apos) (e :: es) [] pos) (vObjO c n S dd vo va) := by
  obtain ⟨f, fd, ps, us, dv, T, hm, hp, F, hb, hv, hd⟩ := h.ex
  obtain ⟨to, po, so⟩ := ho.ex
  obtain ⟨ta, pa, sa⟩ := ha.ex
  refine ⟨_, hpe po T.cls hm F (hr.mono hkj) hb hv pa, fun γ M R σ H Q r h kk => so γ M _ σ H _ r h fun od M1 x H1 o1 i1 e1 h1 => ?_⟩
  cases od with
  | own a =>
    simp only at h1
    split at h1
    · rename_i c' ds q
      obtain ⟨rfl, h1⟩ := h1
      obtain ⟨hl, dx, vs, hx, _⟩ := own_obj o1 q
      have i1' := i1
      unfold Is at i1'
      refine ⟨a, dx, _, i1'.1, hx, zip_none hp, sa γ M1 _ σ H1 _ (r.mk' e1 o1) h1 fun ds2 M2 xs H2 o2 i2 e2 h2 => ?_⟩
      exact spD_of h2.1 i1 o2 (i2.append (constL_ok hd)) e1 e2 h2.2 kk _
    · exact h1.elim
  | _ => exact False.elim h1
theorem q_methO0 (h : MOkO X.prog X.w X.K X.mg X.base C k c m n S []) (hr : Room j X.A) (hkj : k ≤ j) (ho : QE X C o vo)
    (hpe : ∀ {C' f : Addr} {fd : FuncData} {ps : List Str} {sp : Sp} {to : TE} {us : List Value} {dv : List V}, PE X o to → Cls X.K C' → Meth X.K C' m f → FnOk X.prog X.w X.K X.mg X.base CX0 k f fd ps sp → Room k X.A → Binds X.K fd ps us → Vals dv us → PE X (.Call (.Attribute o m apos) [] [] pos) (tMeth C' m sp dv E0 to tNil) := by exact fun h1 h2 h3 h4 h5 h6 h7 => pe_meth0 h1 h2 h3 h4 h5 h6 h7 pass0) :
    QE X C (.Call (.Attribute o m apos) [] [] pos) (vObjO c n S [] vo vNil) := by
  obtain ⟨f, fd, ps, us, dv, T, hm, hp, F, hb, hv, hd⟩ := h.ex
  cases hd
  obtain ⟨to, po, so⟩ := ho.ex
  refine ⟨_, hpe po T.cls hm F (hr.mono hkj) hb hv, fun γ M R σ H Q r h kk => so γ M _ σ H _ r h fun od M1 x H1 o1 i1 e1 h1 => ?_⟩
  cases od with
  | own a =>
    simp only at h1
    split at h1
    · rename_i c' ds q
      obtain ⟨rfl, h1⟩ := h1
      obtain ⟨hl, dx, vs, hx, _⟩ := own_obj o1 q
      have i1' := i1
      unfold Is at i1'
      refine ⟨a, dx, _, i1'.1, hx, zip_none hp, ?_⟩
      show spD _ n S (x :: []) H1 Q E0
      exact spD_of h1.1 i1 o1 IsL.nil e1 Ext.refl h1.2 kk _
    · exact h1.elim
  | _ => exact False.elim h1
theorem snd_makeO {G : Gx} {M M1 : Mem} {R : DR} {H H1 : Hp} {Q : VK} {ds : List D} {xs : List V} (hc : c = c) (o1 : Own G M1 H1) (i1 : IsL G M1 H1 ds xs) (e1 : Ext M M1 H H1) (hl : ds.length + 1 = n)
    (hs : ∀ x, M1 x = none → S (.own x :: ds) (mset M1 x (.obj c [])) (fun d M2 => d = .non ∧ R (.own x) M2) noX) (kk : ∀ d M' x H', Own G M' H' → Is G M' H' d x → Ext M M' H H' → R d M' → Q x H') :
    ∀ x dx, H1 x = none → H1 dx = none → dx ≠ x → spD G n S (.ref x :: (xs ++ [])) (upd (upd H1 dx (.own x)) x (.ins (He.ga G.K c) dx [])) (fun v H2 => v = .non ∧ Q (.ref x) H2) E0 := by
  intro x dx hx hdx hne
  have mx := o1.fresh hx
  have o2 : Own G M1 (upd H1 dx (.own x)) := o1.new hdx
  have e2 : Ext M1 M1 H1 (upd H1 dx (.own x)) := Ext.new hdx
  have hx2 : upd H1 dx (.own x) x = none := by rw [upd_ne hne.symm]; exact hx
  have e3 : Ext M1 (mset M1 x (.obj c [])) (upd H1 dx (.own x)) (upd (upd H1 dx (.own x)) x (.ins (He.ga G.K c) dx [])) := Ext.newOwn hx2
  have o3 : Own G (mset M1 x (.obj c [])) (upd (upd H1 dx (.own x)) x (.ins (He.ga G.K c) dx [])) := o2.setM e3 ⟨Nat.zero_le _, dx, [], by rw [upd_same, List.zip_nil_right], trivial⟩
  have i3 : Is G (mset M1 x (.obj c [])) (upd (upd H1 dx (.own x)) x (.ins (He.ga G.K c) dx [])) (.own x) (.ref x) := is_own
  rw [List.append_nil]
  refine ⟨.own x :: ds, mset M1 x (.obj c []), _, hl, IsL.cons i3 (IsL.ext (e2.trans e3) _ _ i1), o3, hs x mx, fun d M' y H' o' i' e' h' => ?_⟩
  obtain ⟨rfl, hr⟩ := h'
  unfold Is at i'
  refine ⟨i', kk (.own x) M' (.ref x) H' o' ?_ (((e1.trans e2).trans e3).trans e') hr⟩
  unfold Is
  exact ⟨rfl, e'.ow x (by rw [mset_same]; rfl)⟩
theorem q_makeO {p : Pos} (h : MkO X.prog X.w X.K X.mg X.base C k c n S) (hr : Room j X.A) (hkj : k + 1 ≤ j) (ha : QA X C (e :: es) va) (hg : Gl X c := by rfl) (hdb : (c == ("__debug__" : Str)) = false := by decide) (he : starEach (e :: es) X.env = (false, eval e X.env) :: starEach es X.env := by rfl) (hpl : (backTo pos (starEach es X.env)).any (·.1) = false := by rfl) :
    QE X C (.Call (.Name c p) (e :: es) [] pos) (vMakeO c n S va) := by
  obtain ⟨f, fd, ps, hm, mk, F, hb⟩ := h.ex
  obtain ⟨ta, pa, sa⟩ := ha.ex
  refine ⟨_, pe_make (E := E0) mk F (hr.mono hkj) hg hm hb .nil pass0 pa hdb he hpl, fun γ M R σ H Q r h kk => sa γ M _ σ H _ r h fun ds M1 xs H1 o1 i1 e1 h1 => ?_⟩
  exact snd_makeO rfl o1 i1 e1 h1.1 h1.2 kk
theorem q_makeO0 {p : Pos} (h : MkO X.prog X.w X.K X.mg X.base C k c n S) (hr : Room j X.A) (hkj : k + 1 ≤ j) (hg : Gl X c := by rfl) (hdb : (c == ("__debug__" : Str)) = false := by decide) :
    QE X C (.Call (.Name c p) [] [] pos) (vMakeO c n S vNil) := by
  obtain ⟨f, fd, ps, hm, mk, F, hb⟩ := h.ex
  refine ⟨_, pe_make0 (E := E0) mk F (hr.mono hkj) hg hm hb .nil pass0 hdb, fun γ M R σ H Q r h kk => ?_⟩
  have h1 : ([] : List D).length + 1 = n ∧ _ := h
  exact snd_makeO (xs := []) rfl r.ow IsL.nil Ext.refl h1.1 h1.2 kk
end
theorem okF_own {M : Mem} {b : Addr} : okF M (.own b) = ((M b).isSome = true) := id rfl
theorem okF_int {M : Mem} {i : Int} : okF M (.int i) = True := id rfl
theorem okF_bl {M : Mem} {i : Bool} : okF M (.bl i) = True := id rfl
theorem okF_non {M : Mem} : okF M .non = True := id rfl
theorem okF_tup {M : Mem} {i : List D} : okF M (.tup i) = True := id rfl
theorem okF_lst {M : Mem} {i : List D} : okF M (.lst i) = True := id rfl
theorem fldD_own {b : Addr} : fldD (.own b) = true := id rfl
theorem fldD_int {i : Int} : fldD (.int i) = true := id rfl
theorem fldD_bl {i : Bool} : fldD (.bl i) = true := id rfl
theorem fldD_tup {i : List D} : fldD (.tup i) = pureL i := id rfl
theorem fldD_lst {i : List D} : fldD (.lst i) = pureL i := id rfl
/-- .. from the head's facts -/
theorem ocls_of {K : PySem.W.Frag} {c : Str} (h1 : Cls K (He.ga K c)) (h2 : ∀ f ∈ clsF c, NoAttr K (He.ga K c) f) (h3 : (clsF c).Nodup) (h4 : (clsF c).length < 999) : OCls K c := ⟨h1, h2, h3, h4⟩
def oclsB (K : PySem.W.Frag) (c : Str) : Bool := (clsF c).all fun f => He.eqO (PySem.W.findIn K (.ref (He.ga K c)) f) (some none)
theorem oclsB_ok {K : PySem.W.Frag} {c : Str} (h1 : Cls K (He.ga K c)) (h : oclsB K c = true) (h3 : (clsF c).Nodup := by decide +kernel) (h4 : (clsF c).length < 999 := by decide +kernel) : OCls K c :=
  ⟨h1, fun f hf => He.eqO_ok (List.all_eq_true.mp h f hf), h3, h4⟩
end Dl
namespace Dl
open PySem L2
section
variable {P : Program} {w : World} {K : PySem.W.Frag} {mg : Str → Option Value} {base : Heap} {C : Addr} {k n : Nat} {S : DSp} {c x qual : Str} {params : Arguments} {body : List Stmt} {scope : Scope} {dvs : List V} {kws : List (Str × V)} {f : Addr} {fd : FuncData} {ps : List Str}
theorem metho_all (T : OCls K c) (Mt : Meth K (He.ga K c) x f) (hp : x ∉ clsF c) (F : FunD K x qual params body scope [] kws f fd) (ok : FnOk P w K mg base CX0 k f fd ps (spD ⟨K, C⟩ n S))
    (h : ∀ (kV doc pm : Value) (an : Option Addr) (cdv ct : Value) (us : List Value), us.length = ps.length → bindArgs (PySem.W.fnOf x qual params body scope .none kV doc pm an cdv ct) ⟨us, []⟩ = pure (ps.zip us)) : MOkO P w K mg base C k c x n S [] :=
  ⟨f, fd, ps, [], [], T, Mt, hp, ok, F.bindsN h, .nil, rfl⟩
theorem metho_dfl (dd : List D) (m j : Nat) (T : OCls K c) (Mt : Meth K (He.ga K c) x f) (hp : x ∉ clsF c) (F : FunD K x qual params body scope dvs kws f fd) (ok : FnOk P w K mg base CX0 k f fd ps (spD ⟨K, C⟩ n S)) (hd : dvs ≠ []) (hn : m + (dvs.length - j) = ps.length) (hdd : constL dd = some (dvs.drop j))
    (h : ∀ (T : Addr) (kV doc pm : Value) (an : Option Addr) (cdv ct : Value) (us its : List Value), us.length = m → its.length = dvs.length →
      ∃ k, bindArgs (PySem.W.fnOf x qual params body scope (.ref T) kV doc pm an cdv ct) ⟨us, []⟩ = seqItems? (.ref T) >>= k ∧ k (some its.toArray) = pure (ps.zip (us ++ its.drop j))) : MOkO P w K mg base C k c x n S dd := by
  obtain ⟨ds, h1, h2⟩ := F.binds1 m j hd hn h
  exact ⟨f, fd, ps, ds, _, T, Mt, hp, ok, h2, h1, hdd⟩
theorem mko_of (T : OCls K c) (G : mg c = some (.ref (He.ga K c))) (Mk' : ∃ f', Mk K (He.ga K c) f' ∧ f' = f) (F : FunD K x qual params body scope [] kws f fd) (ok : FnOk P w K mg base CX0 k f fd ps (spD ⟨K, C⟩ n S))
    (h : ∀ (kV doc pm : Value) (an : Option Addr) (cdv ct : Value) (us : List Value), us.length = ps.length → bindArgs (PySem.W.fnOf x qual params body scope .none kV doc pm an cdv ct) ⟨us, []⟩ = pure (ps.zip us)) : MkO P w K mg base C k c n S := by
  obtain ⟨f', mk, rfl⟩ := Mk'
  exact ⟨f', fd, ps, G, mk, ok, F.bindsN h⟩
end
end Dl
namespace Dl
open PySem L2
/-! ### xs.pop(i), displays of dicts, t + u of tuples -/
section
variable {X : Cx} {C : Addr} {o e : Expr} {vo ve : DE} {pos apos : Pos}
def vPopI (o e : DE) : DE := fun γ M R => o γ M fun od M1 => match od with
  | .own a => lstAt M1 a = true ∧ e γ M1 fun d M2 => (match M2 a, d with
    | some (.lst ds), .int i => 0 ≤ i ∧ i < 2 ^ 63 ∧ ∃ x, ds[i.toNat]? = some x ∧ R x (mset M2 a (.lst (ds.eraseIdx i.toNat)))
    | _, _ => False)
  | _ => False
theorem e_vPopI (o e : DE) (γ : Gm) (M : Mem) (R : DR) : vPopI o e γ M R = (o γ M fun od M1 => match od with
  | .own a => lstAt M1 a = true ∧ e γ M1 fun d M2 => (match M2 a, d with
    | some (.lst ds), .int i => 0 ≤ i ∧ i < 2 ^ 63 ∧ ∃ x, ds[i.toNat]? = some x ∧ R x (mset M2 a (.lst (ds.eraseIdx i.toNat)))
    | _, _ => False)
  | _ => False) := propext Iff.rfl
theorem pureL_erase : ∀ {ds : List D} {i : Nat}, pureL ds = true → pureL (ds.eraseIdx i) = true
  | [], _, _ => rfl
  | d :: r, 0, h => by
    unfold pureL at h
    rw [Bool.and_eq_true] at h
    exact h.2
  | d :: r, i + 1, h => by
    unfold pureL at h
    rw [Bool.and_eq_true] at h
    show (pureD d && pureL (r.eraseIdx i)) = true
    rw [h.1, pureL_erase h.2]; rfl
theorem isL_erase {G : Gx} {M : Mem} {H : Hp} : ∀ {ds : List D} {xs : List V} {i : Nat}, IsL G M H ds xs → IsL G M H (ds.eraseIdx i) (xs.eraseIdx i)
  | [], [], _, _ => IsL.nil
  | [], _ :: _, _, h => by unfold IsL at h; exact h.elim
  | _ :: _, [], _, h => by unfold IsL at h; exact h.elim
  | d :: r, x :: s, 0, h => by unfold IsL at h; exact h.2
  | d :: r, x :: s, i + 1, h => by unfold IsL at h; exact IsL.cons h.1 (isL_erase h.2)
theorem pureL_get : ∀ {ds : List D} {i : Nat} {d : D}, pureL ds = true → ds[i]? = some d → pureD d = true
  | [], _, _, _, e => by simp at e
  | x :: r, 0, d, h, e => by
    unfold pureL at h
    rw [Bool.and_eq_true] at h
    simp at e
    rw [← e]; exact h.1
  | x :: r, i + 1, d, h, e => by
    unfold pureL at h
    rw [Bool.and_eq_true] at h
    exact pureL_get (i := i) h.2 (by simpa using e)
theorem q_popI (ho : QE X C o vo) (he : QE X C e ve) (hpe : ∀ {to te : TE}, PE X o to → PE X e te → PE X (.Call (.Attribute o "pop" apos) [e] [] pos) (tBM X.K "list" rPopAt to (tCons te tNil)) := by exact fun h1 h2 => pe_bm PySem.F.plainAttrs_list PySem.F.slot_list_pop PySem.F.type_list_pop mt_popAt h1 (pa_cons h2 pa_nil)) : QE X C (.Call (.Attribute o "pop" apos) [e] [] pos) (vPopI vo ve) := by
  obtain ⟨to, po, so⟩ := ho.ex
  obtain ⟨te, pe, se⟩ := he.ex
  refine ⟨_, hpe po pe, fun γ M R σ H Q r h k => so γ M _ σ H _ r h fun od M1 x H1 o1 i1 e1 h1 => ?_⟩
  cases od with
  | own a =>
    have j1 := i1
    unfold Is at j1
    obtain ⟨hq, h1⟩ := h1
    obtain ⟨ds, xs, q, pu, ha, hl⟩ := own_list o1 hq
    rw [j1.1]
    refine ⟨.inl ⟨rfl, xs, SqL.of ha⟩, se γ M1 _ σ H1 _ (r.mk' e1 o1) h1 fun d M2 y H2 o2 i2 e2 h2 => ?_⟩
    have j2 := Is.ext e2 _ _ i1
    unfold Is at j2
    split at h2
    · rename_i ds2 i q2
      obtain ⟨pu2, xs2, ha2, hl2⟩ := o2 a _ q2
      obtain ⟨i0, i63, z, hz, hr⟩ := h2
      have iy := i2
      unfold Is at iy
      subst iy
      obtain ⟨v, hv, iv⟩ := hl2.get hz
      have il : i.toNat < xs2.length := (List.getElem?_eq_some_iff.mp hv).1
      refine ⟨a, xs2, i, i.toNat, v, rfl, rfl, ha2, by omega, by omega, ?_, hv, ?_⟩
      · have n0 : ¬ i < 0 := by omega
        have n1 : (decide (0 ≤ i) && decide (i < (xs2.length : Int))) = true := by
          rw [Bool.and_eq_true, decide_eq_true_eq, decide_eq_true_eq]
          omega
        unfold seqIndex?
        simp only [n0, if_false]
        exact if_pos n1
      · exact k z (mset M2 a (.lst (ds2.eraseIdx i.toNat))) v _ (o2.put j2.2 (pureL_erase pu2) (isL_erase hl2)) (Is.ext (Ext.put j2.2) _ _ iv) ((e1.trans e2).trans (Ext.put j2.2)) hr
    · exact h2.elim
  | _ => exact False.elim h1
end
/-! ### displays of dicts -/
section
variable {X : Cx} {C : Addr} {pos : Pos}
def vDct0 : DE := fun _ M R => R (.dct [] []) M
theorem e_vDct0 (γ : Gm) (M : Mem) (R : DR) : vDct0 γ M R = R (.dct [] []) M := id rfl
theorem q_dct0 : QE X C (.Dict [] [] pos) vDct0 := ⟨_, pe_dnewK, fun γ M R σ H Q r h k p hp => by
  refine k _ M _ _ (r.ow.new hp) ?_ (Ext.new hp) h
  unfold Is
  exact ⟨p, [], rfl, r.ow.fresh hp, upd_same, rfl, IsL.nil⟩⟩
/-- keys and values by turns -/
def keysOf : List D → Option (List Key × List D)
  | [] => some ([], [])
  | .int i :: d :: r => (match keysOf r with
    | some (ks, es) => some (.inl i :: ks, d :: es)
    | none => none)
  | .str x :: d :: r => (match keysOf r with
    | some (ks, es) => some (.inr x :: ks, d :: es)
    | none => none)
  | _ => none
def IsPs (G : Gx) (M : Mem) (H : Hp) : List D → List (V × V) → Prop
  | [], [] => True
  | k :: d :: r, (x, y) :: ps => Is G M H k x ∧ Is G M H d y ∧ IsPs G M H r ps
  | _, _ => False
structure QPs (X : Cx) (C : Addr) (pos : Pos) (keys : List (Option Expr)) (values : List Expr) (v : DA) : Prop where
  ex : ∃ trs, PPs X pos keys values trs ∧ ∀ (γ : Gm) (M : Mem) (F : List D → Mem → Prop) (σ : St) (H : Hp) (Q : List (V × V) → Hp → Prop), Rel ⟨X.K, C⟩ M γ σ H → v γ M F →
    (∀ ds M1 ps H1, Own ⟨X.K, C⟩ M1 H1 → IsPs ⟨X.K, C⟩ M1 H1 ds ps → Ext M M1 H H1 → F ds M1 → Q ps H1) → tPairs trs σ H Q
theorem IsPs.ext {G : Gx} {M M' : Mem} {H H' : Hp} (x : Ext M M' H H') : ∀ {ds : List D} {ps : List (V × V)}, IsPs G M H ds ps → IsPs G M' H' ds ps
  | [], [], _ => trivial
  | [], _ :: _, h => h.elim
  | [_], _, h => by
    cases ‹List (V × V)› <;> exact h.elim
  | _ :: _ :: _, [], h => h.elim
  | k :: d :: r, (a, b) :: ps, h => ⟨Is.ext x _ _ h.1, Is.ext x _ _ h.2.1, IsPs.ext x h.2.2⟩
def vPs (k v : DE) (r : DA) : DA := fun γ M F => k γ M fun x M1 => v γ M1 fun y M2 => r γ M2 fun ds M3 => F (x :: y :: ds) M3
theorem e_vPs (k v : DE) (r : DA) (γ : Gm) (M : Mem) (F : List D → Mem → Prop) : vPs k v r γ M F = (k γ M fun x M1 => v γ M1 fun y M2 => r γ M2 fun ds M3 => F (x :: y :: ds) M3) := id rfl
theorem qps_nil : QPs X C pos [] [] vNil := ⟨[], pps_nil, fun γ M F σ H Q r h k => k [] M [] H r.ow trivial Ext.refl h⟩
theorem qps_cons {k v : Expr} {ks : List (Option Expr)} {vs : List Expr} {vk vv : DE} {vr : DA} (hk : QE X C k vk) (hv : QE X C v vv) (hr : QPs X C pos ks vs vr) : QPs X C pos (some k :: ks) (v :: vs) (vPs vk vv vr) := by
  obtain ⟨tk, pk, sk⟩ := hk.ex
  obtain ⟨tv, pv, sv⟩ := hv.ex
  obtain ⟨trs, pr, sr⟩ := hr.ex
  refine ⟨_, pps_cons pk pv pr, fun γ M F σ H Q r h kk => sk γ M _ σ H _ r h fun x M1 a H1 o1 i1 e1 h1 => sv γ M1 _ σ H1 _ (r.mk' e1 o1) h1 fun y M2 b H2 o2 i2 e2 h2 => ?_⟩
  exact sr γ M2 _ σ H2 _ ((r.mk' e1 o1).mk' e2 o2) h2 fun ds M3 ps H3 o3 i3 e3 h3 => kk _ M3 _ H3 o3 (show IsPs _ _ _ (x :: y :: ds) ((a, b) :: ps) from ⟨Is.ext (e2.trans e3) _ _ i1, Is.ext e3 _ _ i2, i3⟩) ((e1.trans e2).trans e3) h3
theorem keys_is {G : Gx} {M : Mem} {H : Hp} : ∀ {ds : List D} {ps : List (V × V)} {ks : List Key} {es : List D}, keysOf ds = some (ks, es) → IsPs G M H ds ps → ks.length = es.length ∧ ∃ xs, IsL G M H es xs ∧ ps = (ks.zip xs).map fun kv => (kV kv.1, kv.2)
  | [], [], ks, es, h, _ => by
    unfold keysOf at h
    cases h
    exact ⟨rfl, [], IsL.nil, rfl⟩
  | [], _ :: _, _, _, _, i => i.elim
  | .int i :: d :: r, (x, y) :: ps, ks, es, h, is => by
    obtain ⟨i1, i2, i3⟩ := is
    unfold keysOf at h
    split at h
    · rename_i ks' es' e
      cases h
      obtain ⟨l, xs, hl, hp⟩ := keys_is e i3
      unfold Is at i1
      exact ⟨by simp [l], y :: xs, IsL.cons i2 hl, by rw [hp, i1]; rfl⟩
    · cases h
  | .str i :: d :: r, (x, y) :: ps, ks, es, h, is => by
    obtain ⟨i1, i2, i3⟩ := is
    unfold keysOf at h
    split at h
    · rename_i ks' es' e
      cases h
      obtain ⟨l, xs, hl, hp⟩ := keys_is e i3
      unfold Is at i1
      exact ⟨by simp [l], y :: xs, IsL.cons i2 hl, by rw [hp, i1]; rfl⟩
    · cases h
theorem putK_new {κ : Type} [DecidableEq κ] {acc : List (κ × V)} {k : κ} {v : V} (h : k ∉ acc.map (·.1)) : L2.putK acc k v = acc ++ [(k, v)] := by
  unfold L2.putK
  rw [if_neg]
  intro z
  obtain ⟨p, hp, e⟩ := List.any_eq_true.mp z
  exact h (List.mem_map.mpr ⟨p, hp, of_decide_eq_true e⟩)
theorem merge_new : ∀ (kvs acc : List (Key × V)), (acc ++ kvs).map (·.1) |>.Nodup → mergeK acc kvs = acc ++ kvs
  | [], acc, _ => by show acc = acc ++ []; rw [List.append_nil]
  | (k, v) :: r, acc, nd => by
    have hk : k ∉ acc.map (·.1) := by
      intro z
      rw [List.map_append, List.nodup_append] at nd
      exact nd.2.2 k z k (by simp) rfl
    show mergeK (L2.putK acc k v) r = _
    rw [putK_new hk, merge_new r (acc ++ [(k, v)]) (by rw [List.append_assoc]; exact nd), List.append_assoc]
    rfl
def vDct (v : DA) : DE := fun γ M R => ∀ p, M p = none → v γ (mset M p (.dct [] [])) fun ds M1 => ∃ ks es, keysOf ds = some (ks, es) ∧ ks.Nodup ∧ ks.length ≤ 15 ∧ pureL es = true ∧ M1 p = some (.dct [] []) ∧ R (.dct ks es) (mdel M1 p)
theorem e_vDct (v : DA) (γ : Gm) (M : Mem) (R : DR) : vDct v γ M R = (∀ p, M p = none → v γ (mset M p (.dct [] [])) fun ds M1 => ∃ ks es, keysOf ds = some (ks, es) ∧ ks.Nodup ∧ ks.length ≤ 15 ∧ pureL es = true ∧ M1 p = some (.dct [] []) ∧ R (.dct ks es) (mdel M1 p)) := id rfl
theorem q_dct {keys : List (Option Expr)} {values : List Expr} {v : DA} (h : QPs X C pos keys values v) (hall : keys.all (·.isSome) = true := by rfl) (hl : keys.length = values.length := by rfl) (h0 : keys ≠ [] := by exact fun z => by cases z) (h15 : keys.length ≤ 15 := by decide) : QE X C (.Dict keys values pos) (vDct v) := by
  obtain ⟨trs, pt, st⟩ := h.ex
  refine ⟨_, pe_disp pt hall hl h0 h15, fun γ M R σ H Q r hv k p hp => ?_⟩
  have mp := r.ow.fresh hp
  have e0 : Ext M (mset M p (.dct [] [])) H (upd H p (.dK [])) := Ext.newOwn hp
  have o0 : Own ⟨X.K, C⟩ (mset M p (.dct [] [])) (upd H p (.dK [])) := r.ow.setM e0 ⟨rfl, rfl, [], upd_same, IsL.nil⟩
  refine st γ _ _ σ _ _ (r.mk' e0 o0) (hv p mp) fun ds M1 ps H1 o1 i1 e1 h1 => ?_
  obtain ⟨ks, es, ek, nd, l15, pu, m1, hr⟩ := h1
  obtain ⟨ln, xs, il, ep⟩ := keys_is ek i1
  have hx := il.len
  have hp1 : H1 p = some (.dK []) := by
    obtain ⟨_, _, ys, a, b⟩ := o1 p _ m1
    rw [a]
    rfl
  have nk : ((ks.zip xs).map (·.1)) = ks := by rw [List.map_fst_zip]; omega
  have mg : mergeK [] (ks.zip xs) = ks.zip xs := merge_new _ [] (by rw [List.nil_append, nk]; exact nd)
  refine ⟨hp1, ks.zip xs, ep, by rw [List.length_zip]; omega, ?_⟩
  rw [mg]
  have is1 : (M1 p).isSome = true := by rw [m1]; rfl
  have e2 : Ext M1 (mset M1 p (.dct ks es)) H1 (upd H1 p (.dK (ks.zip xs))) := Ext.put is1
  have o2 : Own ⟨X.K, C⟩ (mset M1 p (.dct ks es)) (upd H1 p (.dK (ks.zip xs))) := o1.setM e2 ⟨pu, ln, xs, upd_same, IsL.ext e2 _ _ il⟩
  have sb : Sub (mdel M1 p) (mset M1 p (.dct ks es)) := fun a m q => by
    unfold mdel at q
    split at q
    · cases q
    · rename_i ne
      rw [mset_ne ne]; exact q
  have nn : mdel M1 p p = none := by unfold mdel; rw [if_pos rfl]
  refine k _ (mdel M1 p) _ _ (o2.sub sb) ?_ (((e0.trans e1).trans e2).sub sb fun a ha => ?_) hr
  · unfold Is
    exact ⟨p, xs, rfl, nn, upd_same, ln, IsL.sub (fun b hb => sb.non hb) es xs pu (IsL.ext e2 _ _ il)⟩
  · have ne : a ≠ p := fun z => by rw [z, mp] at ha; cases ha
    have q := e1.ow a (by rw [mset_ne ne]; exact ha)
    unfold mdel
    rw [if_neg ne]
    exact q
end
/-! ### t + u of tuples -/
def oCatT : DO := fun d e M R => match d, e with
  | .tup xs, .tup ys => xs.length + ys.length ≤ sizeLine ∧ R (.tup (xs ++ ys)) M
  | _, _ => False
theorem f_catT {M : Mem} {R : DR} {xs ys : List D} : oCatT (.tup xs) (.tup ys) M R = (xs.length + ys.length ≤ sizeLine ∧ R (.tup (xs ++ ys)) M) := id rfl
theorem sndO_catT {G : Gx} : SndO G (rCatA G.K) oCatT := fun d e M R H x y Q o i1 i2 h k => by
  unfold oCatT at h
  split at h
  · rename_i ds es
    obtain ⟨hz, hr⟩ := h
    have j1 := i1
    have j2 := i2
    unfold Is at j1 j2
    obtain ⟨a, xs, ea, ma, ha, la⟩ := j1
    obtain ⟨b, ys, eb, mb, hb, lb⟩ := j2
    refine ⟨a, b, xs, ys, ea, eb, SqT.of ha, SqT.of hb, by rw [← la.len, ← lb.len]; exact hz, fun z => ?_, fun _ z => ?_, fun _ _ p hp => ?_⟩
    · subst z
      obtain rfl : ds = [] := List.length_eq_zero_iff.mp la.len
      rw [← eb]
      exact k _ M _ H o i2 Ext.refl hr
    · subst z
      obtain rfl : es = [] := List.length_eq_zero_iff.mp lb.len
      rw [List.append_nil] at hr
      rw [← ea]
      exact k _ M _ H o i1 Ext.refl hr
    · exact k _ M _ _ (o.new hp) (new_tup o hp (la.append lb)) (Ext.new hp) hr
  · exact h.elim
section
variable {X : Cx} {C : Addr} {a b : Expr} {va vb : DE} {pos : Pos}
theorem q_catT (ha : QE X C a va) (hb : QE X C b vb) : QE X C (.BinOp a .Add b pos) (vOp oCatT va vb) := qe_op op_catA sndO_catT ha hb
end
/-- the list of a comprehension is reckoned first -/
theorem vlc_eq {ve : DE} {g : DG} {t : DT} {e : DE} {vs : List Nat} {γ : Gm} {M : Mem} {R : DR} : vLc (wList ve) g t e vs γ M R = ve γ M (fun d M1 => vLc (wList (fun _ M2 R2 => R2 d M2)) g t e vs γ M1 R) := id rfl
theorem vfor_eq {ve : DE} {g : DG} {b : DS} {Ed : DEnds} {γ : Gm} {M : Mem} : vFor (wList ve) g b Ed γ M = ve γ M (fun d M1 => vFor (wList (fun _ M2 R2 => R2 d M2)) g b Ed γ M1) := id rfl
/-- a comprehension over a list, the memory by an invariant of one's own -/
theorem vlc_listW {ve : DE} {g : DG} {t : DT} {e : DE} {vs : List Nat} {γ : Gm} {M M1 : Mem} {R : DR} (ds : List D) (hve : ∀ F : DR, F (.lst ds) M1 → ve γ M F)
    (h : ∀ p, M1 p = none → ∃ W : Nat → List D → Mem → Prop, W 0 [] M1 ∧ (∀ i acc M', W i acc M' → M' p = none ∧ acc.length < sizeLine) ∧
      (∀ i acc M' d, W i acc M' → ds[i]? = some d → g d (gwipe γ vs) (mset M' p (.lst acc)) fun γ2 M2 => t γ2 M2 fun b M3 =>
        (b = true → e γ2 M3 fun y M4 => pureD y = true ∧ ∃ M5, M4 = mset M5 p (.lst acc) ∧ W (i + 1) (acc ++ [y]) M5) ∧ (b = false → ∃ M5, M3 = mset M5 p (.lst acc) ∧ W (i + 1) acc M5)) ∧
      (∀ acc M', W ds.length acc M' → R (.lst acc) M')) : vLc (wList ve) g t e vs γ M R :=
  hve _ (fun p hp => by
    obtain ⟨W, a, b, c, d⟩ := h p hp
    exact ⟨W, a, fun i acc M' w => ⟨(b i acc M' w).1, (b i acc M' w).2, rfl⟩, c, d⟩)
section
variable {X : Cx} {C : Addr} {a b c d : Expr} {va vb vc vd : DE} {pos : Pos}
/-- a slice that is changed afterwards -/
def vSlO (a : DE) (lo hi : DPt) : DE := fun γ M R => a γ M fun d M1 => lo γ M1 fun u M2 => hi γ M2 fun w M3 => isTup d = false ∧ match seqI M3 d with
  | some ds => pureL (cutD ds u w) = true ∧ ∀ p, M3 p = none → R (.own p) (mset M3 p (.lst (cutD ds u w)))
  | none => False
theorem e_vSlO (a : DE) (lo hi : DPt) (γ : Gm) (M : Mem) (R : DR) : vSlO a lo hi γ M R = (a γ M fun d M1 => lo γ M1 fun u M2 => hi γ M2 fun w M3 => isTup d = false ∧ match seqI M3 d with
  | some ds => pureL (cutD ds u w) = true ∧ ∀ p, M3 p = none → R (.own p) (mset M3 p (.lst (cutD ds u w)))
  | none => False) := propext Iff.rfl
theorem q_slO {lo hi : Option Expr} {vl vh : DPt} {p2 : Pos} (ha : QE X C a va) (hl : QO X C lo vl) (hh : QO X C hi vh) : QE X C (.Subscript a (.Slice lo hi none p2) pos) (vSlO va vl vh) := by
  obtain ⟨ta, pa, sa⟩ := ha.ex
  obtain ⟨tl, pl, sl⟩ := hl.ex
  obtain ⟨th, ph, sh⟩ := hh.ex
  refine ⟨_, pe_slice sl_list pa pl ph, fun γ M R σ H Q re h k => sa γ M _ σ H _ re h fun d M1 x H1 o1 i1 e1 h1 => sl γ M1 _ σ H1 _ (re.mk' e1 o1) h1 fun u M2 H2 o2 e2 h2 => sh γ M2 _ σ H2 _ (re.mk' (e1.trans e2) o2) h2 fun w M3 H3 o3 e3 h3 => ?_⟩
  obtain ⟨nt, h3⟩ := h3
  cases q : seqI M3 d with
  | none => rw [q] at h3; exact h3.elim
  | some ds =>
    rw [q] at h3
    obtain ⟨p, xs, e4, l, s⟩ := seq_at o3 (Is.ext (e2.trans e3) d x i1) q
    rcases s with ⟨_, s⟩ | ⟨z, _⟩
    · refine ⟨p, xs, e4, s, fun n hn => ?_⟩
      exact k _ (mset M3 n (.lst (cutD ds u w))) _ _ (o3.newOwn hn h3.1 (isL_cut l u w)) is_own (((e1.trans e2).trans e3).trans (Ext.newOwn hn)) (h3.2 n (o3.fresh hn))
    · rw [nt] at z; cases z
end
end Dl
namespace L2
open PySem PySem.Spec PyProof.Rows
section
variable {X : Cx} {a b c d : Expr} {ta tb tc td : TE} {pos : Pos}
theorem pe_chain3 {op op' op'' : CmpOp} {r r' r'' : R2} (ho : OpR X (compareOp op) r) (ho' : OpR X (compareOp op') r') (ho'' : OpR X (compareOp op'') r'') (ha : PE X a ta) (hb : PE X b tb) (hc : PE X c tc) (hd : PE X d td)
    (hm : lastMarks [op, op', op''] [b, c, d] = false := by with_unfolding_all rfl) : PE X (.Compare a [op, op', op''] [b, c, d] pos) (tChain3 r r' r'' ta tb tc td) := by
  refine ⟨fun pins s σ H Q I h => ?_⟩
  refine Compare_chain (thn (ha.run pins s σ H _ I h) fun v s1 ⟨x, H1, I1, r1, q1⟩ => chain_link (thn (hb.run pins s1 σ H1 _ I1 q1) fun u s2 ⟨y, H2, I2, r2, q2⟩ =>
    thn (ho pins s2 σ H2 x y v u _ I2 r1 r2 q2) fun dd s3 ⟨z, H3, I3, r3, k, e, q3⟩ => ?_)) hm
  subst e
  cases r3
  refine wpAny_truthy_bool ?_
  cases k with
  | false => exact ite_ff ⟨.bl false, H3, I3, rfl, q3⟩
  | true =>
    refine ite_tt (chain_link (thn (hc.run pins s3 σ H3 _ I3 q3) fun w' s4 ⟨z', H4, I4, r4, q4⟩ => thn (ho' pins s4 σ H4 y z' u w' _ I4 r2 r4 q4) fun d' s5 ⟨z2, H5, I5, r5, k2, e2, q5⟩ => ?_))
    subst e2
    cases r5
    refine wpAny_truthy_bool ?_
    cases k2 with
    | false => exact ite_ff ⟨.bl false, H5, I5, rfl, q5⟩
    | true => exact ite_tt (chain_last (thn (hd.run pins s5 σ H5 _ I5 q5) fun w2 s6 ⟨z3, H6, I6, r6, q6⟩ => ho'' pins s6 σ H6 z' z3 w' w2 Q I6 r4 r6 q6))
end
end L2
namespace Dl
open PySem L2
section
variable {X : Cx} {C : Addr} {a b c d : Expr} {va vb vc vd : DE} {pos : Pos}
theorem q_chain3 {op op' op'' : CmpOp} {o o' o'' : DO} (ho : CmpQ X C op o) (ho' : CmpQ X C op' o') (ho'' : CmpQ X C op'' o'') (ha : QE X C a va) (hb : QE X C b vb) (hc : QE X C c vc) (hd : QE X C d vd) (hm : lastMarks [op, op', op''] [b, c, d] = false := by with_unfolding_all rfl) : QE X C (.Compare a [op, op', op''] [b, c, d] pos) (vChain3 o o' o'' va vb vc vd) := by
  obtain ⟨r, pr, sr⟩ := ho.ex
  obtain ⟨r', pr', sr'⟩ := ho'.ex
  obtain ⟨r'', pr'', sr''⟩ := ho''.ex
  obtain ⟨ta, pa, sa⟩ := ha.ex
  obtain ⟨tb, pb, sb⟩ := hb.ex
  obtain ⟨tc, pc, sc⟩ := hc.ex
  obtain ⟨td, pd, sd⟩ := hd.ex
  exact ⟨_, pe_chain3 pr pr' pr'' pa pb pc pd hm, snd_chain3 sa sb sc sd sr sr' sr''⟩
end
end Dl
namespace L2
open PySem PySem.Spec PyProof.Rows
/-! ### defs that are called where no repr is under way (the repr of a container asks for that) -/
structure FnG (P : Program) (w : World) (K : PySem.W.Frag) (mg : Str → Option Value) (base : Heap) (CX : CXT) (k : Nat) (f : Addr) (fd : FuncData) (ps : List Str) (sp : Sp) : Prop where
  len : ∀ vs H Q E, sp vs H Q E → vs.length = ps.length
  run : ∀ (A : Around) (outer : List Env) (s : Shared) (H : Hp) (args : Args) (us : List Value) (vs : List V) (Q : VK) (E : XK), Room k A → A.guards = some [] → Env0 P w K mg base A outer s H → BindsTo s fd args (ps.zip us) → Vals vs us → sp vs H Q E →
    codeAny (model P w) A (.call (.ref f) args) (CR CX outer P w H s Q E) s
section
variable {P : Program} {w : World} {K : PySem.W.Frag} {mg mb : Str → Option Value} {base : Heap} {x qual : Str} {params : Arguments} {body : List Stmt} {scope : Scope} {dvs : List V} {kws : List (Str × V)} {f : Addr} {fd : FuncData} {CX : CXT} {k : Nat} {ps : List Str} {sp : Sp}
theorem FnOk.g (F : FnOk P w K mg base CX k f fd ps sp) : FnG P w K mg base CX k f fd ps sp := ⟨F.len, fun A outer s H args us vs Q E hr _ => F.run A outer s H args us vs Q E hr⟩
/-- a def by its body's reading -/
theorem FunD.okG {N : List Str} (F : FunD K x qual params body scope dvs kws f fd) (S : FnScope N ps scope) (len : ∀ vs H Q E, sp vs H Q E → vs.length = ps.length)
    (hb : ∀ (cdv : Value) (A : Around) (outer : List Env) (s : Shared) (H : Hp) (vs : List V) (Q : VK) (E : XK), Room k (A.deeper (envOfC qual scope s.heap.objs.size f cdv)) → A.guards = some [] → sp vs H Q E →
      ∃ t, PSs (cxOf CX P w K mg base N qual scope f cdv A outer s H E) body t ∧ t { nx := fun _ H' => Q .non H', rt := Q } (start N vs) H) : FnG P w K mg base CX (k + 1) f fd ps sp := by
  obtain ⟨oc, od, dV, kV, doc, pm, an, cdv, ct, osl, rfl, lk, hcd, _, _⟩ := F.ex
  refine ⟨len, fun A outer s H args us vs Q E hr hg e0 hbi r hs => ?_⟩
  have keep : ∀ b o, base.get? b = some o → s.heap.get? b = some o := fun b o e => (e0.bs b o e).1
  refine codeAny_call_function hr.depth (e0.mod.kin.keeps keep _ _ lk) rfl S.co S.gen rfl (PySem.W.codeRec_of (e0.mod.kin.keeps keep) hcd) (hbi _ _ _ _ ?_)
  refine wpAny_newFunctionEnv_cells S.kind (fun ⟨n, v⟩ hy => ?_) fun env he s1 z => ?_
  · rcases S.par n (List.of_mem_zip hy).1 with q | q
    · exact .inl q
    · exact .inr ⟨q, PySem.W.cellsFrom_some _ _ _ (.inl q)⟩
  · subst he
    refine ⟨(e0.mod.nolimit.keeps keep).keeps z.toInCall.keep, codeAny_func ?_⟩
    obtain ⟨t, ht, hq⟩ := hb cdv A outer s H vs Q E (hr.deeper _) hg hs
    have I : Inv (cxOf CX P w K mg base N qual scope f cdv A outer s H E) [] (start N vs) H s1 := inv_start S hr.hd e0 (len _ _ _ _ hs) r z
    refine wpAny_mono (ht.run [] s1 (start N vs) H _ I hq) (fun fl s' hs' => ?_) fun _ _ q => q
    match fl, hs' with
    | .ret u, hs' =>
      obtain ⟨v, σ', H', J, rv, q⟩ := hs'
      exact ⟨v, H', J.os, J.bare, J.base, J.hok, rv, q⟩
    | .next, hs' =>
      obtain ⟨σ', H', J, q⟩ := hs'
      exact ⟨V.non, H', J.os, J.bare, J.base, J.hok, (rfl : RelV V.non Value.none), q⟩
    | .brk, hs' => obtain ⟨_, _, _, q⟩ := hs'; exact False.elim q
    | .cont, hs' => obtain ⟨_, _, _, q⟩ := hs'; exact False.elim q
/-- the law's own call -/
theorem law_callG {fa a : Addr} {s1 : Shared} {vs : List Value} {ns : List Int}
    (KX : K.In s1.heap) (hns : s1.heap.Ns mainGlobals mg) (hb : s1.heap.Ns builtinsNs mb) (hbb : ∀ x : Str, x ≠ "__name__" → mb x = bootBuiltins x) (hlim : s1.heap.NoLimit) (hg : s1.gens = #[])
    (ha : s1.heap.get? a = some { cls := .type "list", data := .seq vs.toArray }) (hi : IntsAre vs ns) (hl : ns.length ≤ sizeLine) (hr : Room k callerA)
    (F : ∀ base : Heap, K.In base → base.Ns mainGlobals mg → FnG P w K mg base CX0 k fa fd [x] sp) (hbi : ∀ (s : Shared) (u : Value), BindsTo s fd ⟨[u], []⟩ [(x, u)])
    (hsp : ∀ H : Hp, Only H → SqL K H a (ns.map V.int) → sp [.ref a] H (fun v _ => v = .bl true) fun _ _ _ => False) :
    codeAny (model P w) callerA (.call (.ref fa) ⟨[.ref a], []⟩) (fun r s' => r = .ok (.ret (.bool true)) ∧ OldK s1.heap s'.heap ∧ s'.os = s1.os ∧ AllBare s'.gens) s1 := by
  have rv := vals_ints hi
  have main : ∀ H : Hp, Only H → SqL K H a (ns.map V.int) → HOk P w H s1.heap → (∀ b, H b ≠ none → b = a ∧ K.lookup a = none) →
      codeAny (model P w) callerA (.call (.ref fa) ⟨[.ref a], []⟩) (fun r s' => r = .ok (.ret (.bool true)) ∧ OldK s1.heap s'.heap ∧ s'.os = s1.os ∧ AllBare s'.gens) s1 := fun H hO hS hok hA => by
    have free : ∀ {b : Addr} {o : Obj}, s1.heap.get? b = some o → ((∃ es ep, o.data = .dict es ep) ∨ K.lookup b = some o) → H b = none := fun {b o} e h => by
      cases q : H b with
      | none => rfl
      | some u =>
        obtain ⟨rfl, kn⟩ := hA b (by rw [q]; simp)
        rcases h with ⟨es, ep, d⟩ | h
        · rw [ha] at e
          cases e
          cases d
        · rw [kn] at h
          cases h
    have ns : ∀ {b : Addr} {m : Str → Option Value}, s1.heap.Ns b m → (hidT s1.heap H).Ns b m := fun ⟨o, es, ep, e, d, r⟩ => ⟨o, es, ep, hidT_get e (free e (.inl ⟨_, _, d⟩)), d, r⟩
    have kin : K.In (hidT s1.heap H) := fun b o e => hidT_get (KX b o e) (free (KX b o e) (.inr e))
    have md : Mod K mg (hidT s1.heap H) := ⟨kin, ns hns, ⟨mb, ns hb, hbb⟩, let ⟨mc, h1, h2⟩ := hlim; ⟨mc, ns h1, h2⟩⟩
    have e0 : Env0 P w K mg (hidT s1.heap H) callerA [] s1 H := ⟨rfl, md, fun b o e => of_hidT e, Nat.le_of_eq (hidT_size _ _), trivial, fun b hb => absurd (show b ∈ ([] : List Addr) from hb) (by simp), hok, .of_eq hg⟩
    refine codeAny_mono ((F _ kin (ns hns)).run callerA [] s1 H ⟨[.ref a], []⟩ [.ref a] [.ref a] _ _ hr rfl e0 (hbi s1 (.ref a)) (.cons rfl .nil) (hsp H hO hS)) fun r s' h => ?_
    match r, h with
    | .error e, h => exact False.elim (show False from h)
    | .ok .next, h => exact False.elim h
    | .ok .brk, h => exact False.elim h
    | .ok .cont, h => exact False.elim h
    | .ok (.ret u), h =>
      obtain ⟨v, H', os, bare, un, hok', r', q⟩ := h
      have q' : v = .bl true := q
      subst q'
      obtain rfl : u = Value.bool true := r'
      refine ⟨rfl, OldK.of_keep fun b o e => ?_, os, bare⟩
      rcases hO b with z | ⟨ob, xs, z⟩
      · exact un.keep b o e z (by intro y; exact absurd (show b ∈ ([] : List Addr) from y) (by simp)) (by simp)
      · obtain ⟨e1, _⟩ := hok b _ z
        obtain ⟨e2, _⟩ := hok' b _ (un.frzs b ob _ z)
        rw [e] at e1
        cases e1
        exact e2
  cases hk : K.lookup a with
  | some o =>
    have e := KX a o hk
    rw [ha] at e
    cases e
    exact main (fun _ => none) (fun _ => .inl rfl) (.inr ⟨_, vs.toArray, _, hk, rfl, rfl, rfl, by rw [List.size_toArray, hi.length]; exact hl, by simpa using rv⟩) (fun b u z => nomatch (show (none : Option HO) = some u from z)) fun b z => absurd rfl z
  | none =>
    have at' : ∀ b u, (if b = a then some (HO.frz { cls := .type "list", data := .seq vs.toArray } (.lst (ns.map V.int))) else none) = some u → b = a ∧ u = HO.frz { cls := .type "list", data := .seq vs.toArray } (.lst (ns.map V.int)) := fun b u z => by
      split at z
      · cases z; exact ⟨‹_›, rfl⟩
      · cases z
    refine main (fun b => if b = a then some (.frz { cls := .type "list", data := .seq vs.toArray } (.lst (ns.map V.int))) else none) (fun b => ?_) (.inl (.inr ⟨_, if_pos rfl⟩)) (fun b u z => ?_) (fun b z => ⟨?_, hk⟩)
    · by_cases q : b = a
      · exact .inr ⟨_, _, if_pos q⟩
      · exact .inl (if_neg q)
    · obtain ⟨rfl, rfl⟩ := at' b u z
      exact ⟨ha, by rw [List.length_map]; exact hl, vs, _, rv, ha⟩
    · cases q : (if b = a then some (HO.frz { cls := .type "list", data := .seq vs.toArray } (.lst (ns.map V.int))) else none) with
      | none => exact absurd q z
      | some u => exact (at' b u q).1
theorem walk_ofG {l : PySem.W.OpenLaw} {n : Nat} {q : Program} {loose : List Str} {XP : (Str → Option Value) → Heap → Prop} {YP : World → Heap → Prop} {d : DefRec}
    (hn : l.most = some n) (hn2 : n ≤ sizeLine) (hdf : d.params.defaults = []) (hr : Room k callerA)
    (F : ∀ (w : World) (mg : Str → Option Value) (fa : Addr) (h : Heap), YP w h → h.Ns mainGlobals mg → mg d.name = some (.ref fa) →
      ∃ (K : PySem.W.Frag) (fd : FuncData) (sp : Sp), K.In h ∧ (∀ (s : Shared) (u : Value), BindsTo s fd ⟨[u], []⟩ [(x, u)]) ∧
        (∀ (H : Hp) (a : Addr) (ns : List Int), ns.length ≤ n → Only H → SqL K H a (ns.map V.int) → sp [.ref a] H (fun v _ => v = .bl true) fun _ _ _ => False) ∧
        ∀ base : Heap, K.In base → base.Ns mainGlobals mg → FnG l.prog w K mg base CX0 k fa fd [x] sp) :
    PySem.W.WalkO q loose XP YP l.row.toRowW d [] (fun f vs => PySem.call f vs) := by
  refine Att.attach_call hn hdf fun w s₀ s₁ mg mb fa o pm cd doc a vs ns G Y ho hd hcd hmg hobj hints hlen hg => ?_
  obtain ⟨K, fd, sp, KX, hb, hsp, hF⟩ := F w mg fa _ Y G.T.g hmg
  exact law_callG KX G.T.g G.T.b G.T.builtins G.T.nolimit hg hobj hints (Nat.le_trans hlen hn2) hr hF hb fun H hO hS => hsp H a ns hlen hO hS
end
section
variable {X : Cx} {CX : CXT} {k : Nat} {f : Addr} {fd : FuncData} {ps : List Str} {sp : Sp} {dvs : List V} {ds : List Value} {E : XK} {x : Str} {p pos : Pos} {e : Expr} {es : List Expr} {t : TA}
theorem run_fnG {pins : List (Addr × Obj)} {σ : St} {H : Hp} {s : Shared} {Q : VK} {us : List Value} {vs : List V} (F : FnG X.prog X.w X.K X.mg X.base CX k f fd ps sp) (hr : Room k X.A) (hgu : X.A.guards = some []) (hb : Binds X.K fd ps ds) (hd : Vals dvs ds) (hx : Passes CX X E)
    (I : Inv X pins σ H s) (r : Vals vs us) (h : sp (vs ++ dvs) H Q E) : wpAny (model X.prog X.w) X.A (call (.ref f) us) (EP X pins σ Q) X.xe s := by
  have r2 : Vals (vs ++ dvs) (us ++ ds) := r.append hd
  have hl : (us ++ ds).length = ps.length := by rw [← r2.length]; exact F.len _ _ _ _ h
  refine wpAny_call (codeAny_mono (F.run X.A X.stack s H ⟨us, []⟩ (us ++ ds) (vs ++ dvs) Q E hr hgu I.env0 (hb s us I.kIn hl) r2 h) fun z s' hz => ?_)
  match z, hz with
  | .error u, hz => exact hx pins σ H s u s' I hz
  | .ok (.ret u), hz => exact I.after hz
  | .ok .next, hz => exact hz.elim
  | .ok .brk, hz => exact hz.elim
  | .ok .cont, hz => exact hz.elim
theorem pe_callG (F : FnG X.prog X.w X.K X.mg X.base CX k f fd ps sp) (hr : Room k X.A) (hgu : X.A.guards = some []) (hg : Gl X x) (hm : X.mg x = some (.ref f)) (hk : PySem.W.keepIn X.K (.ref f) = true) (hb : Binds X.K fd ps ds) (hd : Vals dvs ds) (hx : Passes CX X E)
    (ha : PA X (e :: es) t) (hdb : (x == ("__debug__" : Str)) = false := by decide) (he : starEach (e :: es) X.env = (false, eval e X.env) :: starEach es X.env := by rfl) (hpl : (backTo pos (starEach es X.env)).any (·.1) = false := by rfl) :
    PE X (.Call (.Name x p) (e :: es) [] pos) (tCall sp dvs E t) :=
  ⟨fun pins s σ H Q I h => wpAny_Call_Name_kw (ld_glob I hg hm (PySem.W.callWith_K (h₀ := X.base) I.ok.mod.kin hk (thn (ha.run pos pins s σ H _ I h) fun us s1 ⟨vs, H1, I1, r, q⟩ => ⟨I1.kIn, run_fnG F hr hgu hb hd hx I1 r q⟩) he hpl) hdb)⟩
theorem pe_callG0 (F : FnG X.prog X.w X.K X.mg X.base CX k f fd ps sp) (hr : Room k X.A) (hgu : X.A.guards = some []) (hg : Gl X x) (hm : X.mg x = some (.ref f)) (hk : PySem.W.keepIn X.K (.ref f) = true) (hb : Binds X.K fd ps ds) (hd : Vals dvs ds) (hx : Passes CX X E)
    (hdb : (x == ("__debug__" : Str)) = false := by decide) : PE X (.Call (.Name x p) [] [] pos) (tCall sp dvs E tNil) :=
  ⟨fun pins s σ H Q I h => wpAny_Call_Name_kw (ld_glob I hg hm (PySem.W.callWith_K0 I.kIn hk (run_fnG (us := []) F hr hgu hb hd hx I .nil h)) hdb)⟩
end
end L2
namespace Dl
open PySem L2
structure CallG (P : Program) (w : World) (K : PySem.W.Frag) (mg : Str → Option Value) (base : Heap) (C : Addr) (k : Nat) (x : Str) (n : Nat) (S : DSp) : Prop where
  ex : ∃ (f : Addr) (fd : FuncData) (ps : List Str), mg x = some (.ref f) ∧ PySem.W.keepIn K (.ref f) = true ∧ FnG P w K mg base CX0 k f fd ps (spD ⟨K, C⟩ n S) ∧ Binds K fd ps []
section
variable {X : Cx} {C : Addr} {k j n : Nat} {S : DSp} {x : Str} {p pos : Pos} {e : Expr} {es : List Expr} {va : DA}
theorem qcG (h : CallG X.prog X.w X.K X.mg X.base C k x n S) (hr : Room j X.A) (hkj : k ≤ j) (hgu : X.A.guards = some []) (ha : QA X C (e :: es) va) (hg : Gl X x := by rfl) (hdb : (x == ("__debug__" : Str)) = false := by decide) (he : starEach (e :: es) X.env = (false, eval e X.env) :: starEach es X.env := by rfl) (hpl : (backTo pos (starEach es X.env)).any (·.1) = false := by rfl) :
    QE X C (.Call (.Name x p) (e :: es) [] pos) (vCall n S [] va) := by
  obtain ⟨f, fd, ps, h1, h2, h3, h4⟩ := h.ex
  obtain ⟨ta, pa, sa⟩ := ha.ex
  exact ⟨_, pe_callG h3 (hr.mono hkj) hgu hg h1 h2 h4 .nil pass0 pa hdb he hpl, snd_call rfl sa⟩
theorem qcG0 (h : CallG X.prog X.w X.K X.mg X.base C k x n S) (hr : Room j X.A) (hkj : k ≤ j) (hgu : X.A.guards = some []) (hg : Gl X x := by rfl) (hdb : (x == ("__debug__" : Str)) = false := by decide) : QE X C (.Call (.Name x p) [] [] pos) (vCall n S [] vNil) := by
  obtain ⟨f, fd, ps, h1, h2, h3, h4⟩ := h.ex
  exact ⟨_, pe_callG0 h3 (hr.mono hkj) hgu hg h1 h2 h4 .nil pass0 hdb, snd_call rfl (fun γ M R σ H Q r h k => k _ M _ H r.ow IsL.nil Ext.refl h)⟩
end
section
variable {P : Program} {w : World} {K : PySem.W.Frag} {mg : Str → Option Value} {base : Heap} {C : Addr} {k n : Nat} {S : DSp} {x qual : Str} {params : Arguments} {body : List Stmt} {scope : Scope} {dvs : List V} {kws : List (Str × V)} {f : Addr} {fd : FuncData} {ps : List Str}
theorem callG_all (G : mg x = some (.ref f)) (F : FunD K x qual params body scope [] kws f fd) (ok : FnG P w K mg base CX0 k f fd ps (spD ⟨K, C⟩ n S))
    (h : ∀ (kV doc pm : Value) (an : Option Addr) (cdv ct : Value) (us : List Value), us.length = ps.length → bindArgs (PySem.W.fnOf x qual params body scope .none kV doc pm an cdv ct) ⟨us, []⟩ = pure (ps.zip us)) : CallG P w K mg base C k x n S :=
  ⟨f, fd, ps, G, F.kp, ok, F.bindsN h⟩
theorem fn_okG {N ps : List Str} {k : Nat} {C : Addr} {S : DSp} {v : DS} (n m : Nat) (F : FunD K x qual params body scope dvs kws f fd) (SC : FnScope N ps scope)
    (hq : ∀ (cdv : Value) (A : Around) (outer : List Env) (s : Shared) (H : Hp) (E : XK), Room k (A.deeper (PyProof.Rows.envOfC qual scope s.heap.objs.size f cdv)) → A.guards = some [] → QSs (cxOf CX0 P w K mg base N qual scope f cdv A outer s H E).nox C body v)
    (hv : ∀ ds M R, ds.length = m → S ds M R noX → v (fEnds M R) (st0 n ds) M) (hn : N.length = n := by rfl) (hm : ps.length = m := by rfl) : FnG P w K mg base CX0 (k + 1) f fd ps (spD ⟨K, C⟩ m S) := by
  subst hn; subst hm
  have hpl : ps.length ≤ N.length := by have := congrArg List.length SC.pre; rw [List.length_take] at this; omega
  refine FunD.okG F SC (fun vs H Q E h => ?_) (fun cdv A outer s H vs Q E hr hg h => ?_)
  · obtain ⟨ds, M, R, hl, il, _⟩ := h
    rw [← il.len]; exact hl
  · obtain ⟨ds, M, R, hl, il, ow, hs, k2⟩ := h
    obtain ⟨t, pt, st⟩ := (hq cdv A outer s H E hr hg).ex
    refine ⟨t, pt.nox, st (fEnds M R) (st0 N.length ds) M _ H _ ⟨st0_rel il (by omega), ow⟩ ⟨?_, ?_, ?_, ?_, ?_⟩ (hv ds M R hl hs)⟩
    · intro γ M' σ H' r' e' h'
      exact fin_ok r'.ow is_non e' h' k2
    · intro d M' y H' o' i' e' h'
      exact fin_ok o' i' e' h' k2
    · intro _ _ _ _ _ _ h'; exact h'.elim
    · intro _ _ _ _ _ _ h'; exact h'.elim
    · intro _ _ _ _ _ _ _ _ _ _ h'; exact h'.elim
end
/-! ### the repr of plain data -/
mutual
/-- no list within -/
def noLst : D → Bool
  | .tup ds => noLstL ds
  | .lst _ => false
  | .dct _ ds => noLstL ds
  | _ => true
def noLstL : List D → Bool
  | [] => true
  | d :: ds => noLst d && noLstL ds
end
def kP : Key → PyData
  | .inl i => .int i
  | .inr x => .str x
mutual
def toR : D → Option PyData
  | .non => some .none
  | .bl b => some (.bool b)
  | .int i => some (.int i)
  | .str x => some (.str x)
  | .tup ds => match toRL ds with
    | some ps => some (.tuple ps)
    | none => none
  | .lst ds => match toRL ds with
    | some ps => some (.list ps)
    | none => none
  | .dct ks ds => match toRL ds with
    | some ps => some (.dict ((ks.map kP).zip ps))
    | none => none
  | _ => none
def toRL : List D → Option (List PyData)
  | [] => some []
  | d :: ds => match toR d, toRL ds with
    | some p, some ps => some (p :: ps)
    | _, _ => none
end
theorem toRL_len : ∀ {ds : List D} {ps : List PyData}, toRL ds = some ps → ps.length = ds.length
  | [], ps, e => by unfold toRL at e; cases e; rfl
  | d :: ds, ps, e => by
    unfold toRL at e
    split at e
    · rename_i p qs e1 e2
      cases e
      rw [List.length_cons, List.length_cons, toRL_len e2]
    · cases e
section
variable {X : Cx} {C : Addr} {pins : List (Addr × Obj)} {σ : St} {H : Hp} {s : Shared} {M : Mem}
theorem pairs_reads {P : Program} {w : World} {h : Heap} {es : List DictEntry} {us : List (Key × Value)} (hp : PySem.Pairs (mixKind P w) es us) : ∀ {ks : List Key} {vs : List V} {qs : List PyData}, KV (ks.zip vs) us → ks.length = vs.length → qs.length = ks.length →
    ReadsAll h (es.map (·.key)) (((ks.map kP).zip qs).map (·.1)) [] ∧ Vals vs (es.map (·.val)) ∧ ((ks.map kP).zip qs).map (·.2) = qs := by
  induction hp with
  | nil =>
    intro ks vs qs hk hl hq
    cases ks with
    | nil =>
      cases vs with
      | cons _ _ => cases hl
      | nil =>
        cases qs with
        | cons _ _ => cases hq
        | nil => exact ⟨.nil, .nil, rfl⟩
    | cons k ks =>
      cases vs with
      | nil => cases hl
      | cons v vs => cases hk
  | cons h1 h2 h3 ih =>
    intro ks vs qs hk hl hq
    cases ks with
    | nil => cases hk
    | cons k ks =>
      cases vs with
      | nil => cases hl
      | cons v vs =>
        cases qs with
        | nil => cases hq
        | cons q qs =>
          cases hk with
          | cons a b =>
            obtain ⟨r1, r2, r3⟩ := ih b (by simpa using hl) (by simpa using hq)
            obtain ⟨a1, a2⟩ := a
            refine ⟨?_, .cons (by simp only [h2]; exact a2) r2, by simpa using r3⟩
            rcases keyIs_shape h1 with ⟨i, t, e1, e2⟩ | ⟨x, t, e1, e2⟩
            · have e3 : k = Sum.inl i := (show k = _ from a1).trans e1
              subst e3
              rw [List.map_cons, e2]
              exact ReadsAll.cons (Reads.int i t) r1
            · have e3 : k = Sum.inr x := (show k = _ from a1).trans e1
              subst e3
              rw [List.map_cons, e2]
              exact ReadsAll.cons (Reads.str x t) r1
mutual
theorem is_reads (I : Inv X pins σ H s) : ∀ (d : D) (v : V) (u : Value) (p : PyData), Is ⟨X.K, C⟩ M H d v → RelV v u → toR d = some p → ∃ as, Reads s.heap u p as ∧ (noLst d = true → sysModules ∉ as)
  | .non, v, u, p, i, r, e => by unfold toR at e; unfold Is at i; cases e; subst i; cases r; exact ⟨_, Reads.none, fun _ => by simp⟩
  | .bl b, v, u, p, i, r, e => by unfold toR at e; unfold Is at i; cases e; subst i; cases r; exact ⟨_, Reads.bool b, fun _ => by simp⟩
  | .int n, v, u, p, i, r, e => by unfold toR at e; unfold Is at i; cases e; subst i; obtain ⟨t, rfl⟩ := r; exact ⟨_, Reads.int n t, fun _ => by simp⟩
  | .str x, v, u, p, i, r, e => by unfold toR at e; unfold Is at i; cases e; subst i; obtain ⟨t, rfl⟩ := r; exact ⟨_, Reads.str x t, fun _ => by simp⟩
  | .tup ds, v, u, p, i, r, e => by
    unfold toR at e
    split at e
    · rename_i ps e1
      cases e
      unfold Is at i
      obtain ⟨a, xs, rfl, _, hH, il⟩ := i
      cases r
      obtain ⟨its, rv, ⟨o, ho, hc, n, hd⟩, _⟩ := I.tuple (show SqT X.K H a xs from .inl (.inl hH))
      obtain ⟨as, hr, hn⟩ := isL_reads I ds xs its ps il rv e1
      exact ⟨_, Reads.tuple ho hc hd hr, fun z => hn (by simpa only [noLst] using z)⟩
    · cases e
  | .lst ds, v, u, p, i, r, e => by
    unfold toR at e
    split at e
    · rename_i ps e1
      cases e
      unfold Is at i
      obtain ⟨a, xs, rfl, _, hH, il⟩ := i
      cases r
      obtain ⟨its, rv, ⟨o, n, ho, hc, _, hd⟩, _⟩ := I.list (show SqL X.K H a xs from .inl (.inl hH))
      obtain ⟨as, hr, _⟩ := isL_reads I ds xs its ps il rv e1
      exact ⟨_, Reads.list ho hc hd hr, fun z => by simp only [noLst] at z; cases z⟩
    · cases e
  | .dct ks ds, v, u, p, i, r, e => by
    unfold toR at e
    split at e
    · rename_i ps e1
      cases e
      unfold Is at i
      obtain ⟨a, xs, rfl, _, hH, hl, il⟩ := i
      cases r
      obtain ⟨_, hs, us, kv, o, es, ep, h1, hx, h2, _, h3, _⟩ := I.hok a _ hH
      have l1 := toRL_len e1
      have l2 := il.len
      obtain ⟨q1, q2, q3⟩ := pairs_reads (h := s.heap) h3 (qs := ps) kv (by omega) (by omega)
      obtain ⟨bs, hr, hn⟩ := isL_reads I ds xs _ ps il q2 e1
      exact ⟨_, Reads.dict h1 hx.1 h2 q1 (by rw [q3]; exact hr), fun z => by
        have := hn (by simpa only [noLst] using z)
        have hs' : a ≠ sysModules := by simpa using hs
        simp only [List.append_nil, List.cons_append, List.nil_append, List.mem_cons, not_or]
        exact ⟨fun q => hs' q.symm, this⟩⟩
    · cases e
  | .own _, _, _, _, _, _, e => by unfold toR at e; cases e
  | .scr _, _, _, _, _, _, e => by unfold toR at e; cases e
  | .ln _ _ _, _, _, _, _, _, e => by unfold toR at e; cases e
  | .exn _ _, _, _, _, _, _, e => by unfold toR at e; cases e
  | .exn0 _, _, _, _, _, _, e => by unfold toR at e; cases e
  | .cls, _, _, _, _, _, e => by unfold toR at e; cases e
theorem isL_reads (I : Inv X pins σ H s) : ∀ (ds : List D) (vs : List V) (us : List Value) (ps : List PyData), IsL ⟨X.K, C⟩ M H ds vs → Vals vs us → toRL ds = some ps → ∃ as, ReadsAll s.heap us ps as ∧ (noLstL ds = true → sysModules ∉ as)
  | [], vs, us, ps, i, r, e => by
    unfold toRL at e
    cases e
    cases vs with
    | nil => cases r; exact ⟨_, ReadsAll.nil, fun _ => by simp⟩
    | cons _ _ => unfold IsL at i; exact i.elim
  | d :: ds, vs, us, ps, i, r, e => by
    unfold toRL at e
    split at e
    · rename_i p qs e1 e2
      cases e
      cases vs with
      | nil => unfold IsL at i; exact i.elim
      | cons v vs =>
        unfold IsL at i
        cases r with
        | cons r1 r2 =>
          obtain ⟨as, q1, n1⟩ := is_reads I d _ _ _ i.1 r1 e1
          obtain ⟨bs, q2, n2⟩ := isL_reads I ds _ _ _ i.2 r2 e2
          exact ⟨_, ReadsAll.cons q1 q2, fun z => by
            simp only [noLstL, Bool.and_eq_true] at z
            rw [List.mem_append, not_or]
            exact ⟨n1 z.1, n2 z.2⟩⟩
    · cases e
end
end
/-- what may be shown: plain data of no more than 60 levels -/
structure ShowOk (d : D) (p : PyData) : Prop where
  is : toR d = some p
  sh : p.showable = true
  len : p.shown.length ≤ sizeLine
  dep : p.depth ≤ 60
  dic : p.hasDict = false ∨ noLst d = true
def oReprD : DC := fun ds M R => match ds with
  | [d] => ∃ p, ShowOk d p ∧ R (.str p.shown) M
  | _ => False
theorem e_oReprD (d : D) (M : Mem) (R : DR) : oReprD [d] M R = (∃ p, ShowOk d p ∧ R (.str p.shown) M) := id rfl
section
variable {X : Cx} {C : Addr}
def rReprD (X : Cx) (C : Addr) : List V → Hp → VK → Prop := fun xs H Q => ∃ M d v p, xs = [v] ∧ Is ⟨X.K, C⟩ M H d v ∧ ShowOk d p ∧ Q (.str p.shown) H
theorem cr_reprD (hg : X.A.guards = some []) (hu : X.A.units + 64 < cLine) : CallR X (.builtin "repr") (rReprD X C) := by
  intro pins s σ H xs us Q I r h
  obtain ⟨M, d, v, p, rfl, i, sh, q⟩ := h
  obtain ⟨u, rfl, t⟩ := vals1 r
  obtain ⟨as, rd, nl⟩ := is_reads I d v u p i t sh.is
  have fin : ∀ h' u tk, (∀ b o, s.heap.get? b = some o → h'.get? b = some o) → EP X pins σ Q (.str p.shown u) { s with heap := h', toks := tk } := fun h' u tk k => ⟨.str p.shown, H, I.kept k, ⟨u, rfl⟩, q⟩
  have ss := sh.sh
  have sl := sh.len
  have big : ∀ (a : Addr), u = .ref a → wpAny (model X.prog X.w) X.A (call (.builtin "repr") [u]) (EP X pins σ Q) X.xe s := fun a e => by
    subst e
    exact repr_of_reads' rd ss (fun z => by
      rcases sh.dic with y | y
      · rw [y] at z; cases z
      · exact nl y) hg (by have := sh.dep; omega) (fun _ _ e => e) fin sl
  cases rd with
  | none => exact PySem.P.repr_of_none (fin s.heap _ _ fun _ _ e => e)
  | bool b => exact PySem.P.repr_of_bool (fin s.heap _ _ fun _ _ e => e)
  | int n t => exact PySem.P.repr_of_int (by simpa [PyData.showable] using ss) (fin s.heap _ _ fun _ _ e => e)
  | str x t => exact PySem.P.repr_of_str (fin s.heap _ _ fun _ _ e => e) (by simpa only [PyData.shown] using sl)
  | list _ _ _ _ => exact big _ rfl
  | tuple _ _ _ _ => exact big _ rfl
  | dict _ _ _ _ _ => exact big _ rfl
theorem b_reprD {j : Nat} (hg : X.A.guards = some []) (hr : Room j X.A) : BQ X C (.builtin "repr") oReprD := ⟨_, cr_reprD hg hr.units, fun ds M R H xs Q o i1 h k => by
  match ds, h with
  | [d], h =>
    obtain ⟨p, sh, h⟩ := h
    obtain ⟨v, rfl, i⟩ := isL1 i1
    exact ⟨M, d, v, p, rfl, i, sh, k _ M _ H o is_str Ext.refl h⟩⟩
end
end Dl
namespace Dl
open PySem L2
/-! ### a list against [] (whatever it holds) -/
def oEqN (f : Bool → Bool) : DO := fun d e M R => match d, e with
  | .lst ds, .lst [] => R (.bl (f ds.isEmpty)) M
  | _, _ => False
theorem f_eqNl {f : Bool → Bool} {ds : List D} {M : Mem} {R : DR} : oEqN f (.lst ds) (.lst []) M R = R (.bl (f ds.isEmpty)) M := rfl
def rEqN (f : Bool → Bool) : R2 := fun x y H Q => ∃ a b xs, x = .ref a ∧ y = .ref b ∧ H a = some (.lst xs) ∧ H b = some (.lst []) ∧ Q (.bl (f xs.isEmpty)) H
section
variable {X : Cx} {C : Addr}
theorem op_eqNl (hu : X.A.units < cLine) : OpR X (compareOp .Eq) (rEqN id) := by
  intro pins s σ H x y v u Q I rx ry h
  obtain ⟨a, b, xs, rfl, rfl, ea, eb, q⟩ := h
  obtain rfl : v = Value.ref a := rx
  obtain rfl : u = Value.ref b := ry
  obtain ⟨_, its, n, ra, ya⟩ := (show ObjOk X.prog X.w H s.heap a (.lst xs) from I.hok a _ ea)
  obtain ⟨_, jts, m, rb, yb⟩ := (show ObjOk X.prog X.w H s.heap b (.lst []) from I.hok b _ eb)
  have h1 := ra.length
  have h2 := rb.length
  cases xs with
  | nil =>
    cases ra
    cases rb
    exact SeqAt.RcAt.lists (e := fun _ => true) ⟨_, ya, rfl, _, rfl⟩ ⟨_, yb, rfl, _, rfl⟩ rfl hu (fun j z _ => absurd z (by simp)) X.prog X.w X.xe _ ⟨.bl _, H, I, rfl, q⟩
  | cons z zs =>
    refine SeqAt.RcAt.lists_lengths ⟨_, ya, rfl, _, rfl⟩ ⟨_, yb, rfl, _, rfl⟩ ?_ hu X.prog X.w X.xe _ ⟨.bl _, H, I, rfl, q⟩
    simp at h1 h2 ⊢; omega
theorem op_neNl (hu : X.A.units < cLine) : OpR X (compareOp .NotEq) (rEqN Bool.not) := by
  intro pins s σ H x y v u Q I rx ry h
  obtain ⟨a, b, xs, rfl, rfl, ea, eb, q⟩ := h
  obtain rfl : v = Value.ref a := rx
  obtain rfl : u = Value.ref b := ry
  obtain ⟨_, its, n, ra, ya⟩ := (show ObjOk X.prog X.w H s.heap a (.lst xs) from I.hok a _ ea)
  obtain ⟨_, jts, m, rb, yb⟩ := (show ObjOk X.prog X.w H s.heap b (.lst []) from I.hok b _ eb)
  have h1 := ra.length
  have h2 := rb.length
  cases xs with
  | nil =>
    cases ra
    cases rb
    exact SeqAt.RcNeAt.lists (e := fun _ => true) ⟨_, ya, rfl, _, rfl⟩ ⟨_, yb, rfl, _, rfl⟩ rfl hu (fun j z _ => absurd z (by simp)) X.prog X.w X.xe _ ⟨.bl _, H, I, rfl, q⟩
  | cons z zs =>
    refine SeqAt.RcNeAt.lists_lengths ⟨_, ya, rfl, _, rfl⟩ ⟨_, yb, rfl, _, rfl⟩ ?_ hu X.prog X.w X.xe _ ⟨.bl _, H, I, rfl, q⟩
    simp at h1 h2 ⊢; omega
theorem sndO_eqNl {G : Gx} {f : Bool → Bool} : SndO G (rEqN f) (oEqN f) := fun d e M R H x y Q o i1 i2 h k => by
  unfold oEqN at h
  split at h
  · rename_i ds
    unfold Is at i1 i2
    obtain ⟨a, us, ex, _, ha, hl⟩ := i1
    obtain ⟨b, vs, ey, _, hb, hl2⟩ := i2
    have l1 := hl.len
    have l2 := hl2.len
    have ev : vs = [] := by cases vs with
      | nil => rfl
      | cons _ _ => simp at l2
    subst ev
    refine ⟨a, b, us, ex, ey, ha, hb, k _ M _ H o is_bl Ext.refl ?_⟩
    have e : us.isEmpty = ds.isEmpty := by
      cases us <;> cases ds <;> simp at l1 ⊢
    rw [e]
    exact h
  · exact h.elim
theorem c_eqNl {k : Nat} (hr : Room k X.A) : CmpQ X C .Eq (oEqN id) := ⟨_, op_eqNl (by have := hr.units; omega), sndO_eqNl⟩
theorem c_neNl {k : Nat} (hr : Room k X.A) : CmpQ X C .NotEq (oEqN Bool.not) := ⟨_, op_neNl (by have := hr.units; omega), sndO_eqNl⟩
end
end Dl
namespace Dl
open PySem L2
/-! ### an owned list that changes no more: frozen behind two statements -/
def frD (q : Addr) : D → Prop
  | .own r => r ≠ q
  | d => pureD d = true
def frAll (q : Addr) : Gm → Prop
  | [] => True
  | none :: r => frAll q r
  | some d :: r => frD q d ∧ frAll q r
def frOk (q : Addr) : Nat → Gm → Prop
  | _, [] => True
  | 0, _ :: r => frAll q r
  | i + 1, none :: r => frOk q i r
  | i + 1, some d :: r => frD q d ∧ frOk q i r
theorem is_frz {G : Gx} {M M2 : Mem} {H : Hp} {q : Addr} (sub : ∀ a, M a = none → M2 a = none) (keep : ∀ a, a ≠ q → M2 a = M a) {d : D} {v : V} (f : frD q d) (i : Is G M H d v) : Is G M2 H d v := by
  cases d with
  | own r =>
    unfold Is at i ⊢
    exact ⟨i.1, by rw [keep r f]; exact i.2⟩
  | _ => exact Is.sub sub _ _ f i
theorem slR_all {G : Gx} {M M2 : Mem} {H : Hp} {q : Addr} (sub : ∀ a, M a = none → M2 a = none) (keep : ∀ a, a ≠ q → M2 a = M a) : ∀ {γ : Gm} {σ : St}, SlR G M H γ σ → frAll q γ → SlR G M2 H γ σ
  | [], [], _, _ => trivial
  | [], _ :: _, h, _ => h.elim
  | none :: _, [], h, _ => h.elim
  | some _ :: _, [], h, _ => h.elim
  | none :: r, _ :: s, h, f => slR_all (γ := r) (σ := s) sub keep h f
  | some d :: r, y :: s, h, f => ⟨let ⟨v, e, q⟩ := h.1; ⟨v, e, is_frz sub keep f.1 q⟩, slR_all (γ := r) (σ := s) sub keep h.2 f.2⟩
theorem slR_frz {G : Gx} {M M2 : Mem} {H : Hp} {q : Addr} {es : List D} (sub : ∀ a, M a = none → M2 a = none) (keep : ∀ a, a ≠ q → M2 a = M a) (own : ∀ v, Is G M H (.own q) v → Is G M2 H (.lst es) v) : ∀ {γ : Gm} {σ : St} {i : Nat}, SlR G M H γ σ → gt γ i = some (.own q) → frOk q i γ → SlR G M2 H (gset γ i (some (.lst es))) σ
  | [], _, _, _, e, _ => by cases e
  | a :: _, [], _, h, _, _ => by cases a <;> exact h.elim
  | none :: r, _ :: s, 0, _, e, _ => by cases e
  | some d :: r, y :: s, 0, h, e, f => by
    have e' : some d = some (.own q) := e
    cases e'
    exact ⟨let ⟨v, e, i⟩ := h.1; ⟨v, e, own v i⟩, slR_all (γ := r) (σ := s) sub keep h.2 f⟩
  | none :: r, y :: s, i + 1, h, e, f => slR_frz (γ := r) (σ := s) (i := i) sub keep own h e f
  | some d :: r, y :: s, i + 1, h, e, f => ⟨let ⟨v, e, i⟩ := h.1; ⟨v, e, is_frz sub keep f.1 i⟩, slR_frz (γ := r) (σ := s) (i := i) sub keep own h.2 e f.2⟩
def frzK (i : Nat) (M : Mem) (u : Gm → Mem → Prop) : Gm → Mem → Prop := fun γ' M' => ∃ q es, gt γ' i = some (.own q) ∧ M q = none ∧ M' q = some (.lst es) ∧ frOk q i γ' ∧ u (gset γ' i (some (.lst es))) (mdel M' q)
def vFrz (i : Nat) (a b u : DS) : DS := fun Ed γ M => a { Ed with nx := b { Ed with nx := frzK i M (u Ed) } } γ M
theorem e_vFrz (i : Nat) (a b u : DS) (Ed : DEnds) (γ : Gm) (M : Mem) : vFrz i a b u Ed γ M = a { Ed with nx := b { Ed with nx := frzK i M (u Ed) } } γ M := id rfl
section
variable {X : Cx} {C : Addr} {s1 s2 : Stmt} {rest : List Stmt} {a b u : DS}
theorem qss_frz (i : Nat) (h1 : QS X C s1 a) (h2 : QS X C s2 b) (h3 : QSs X C rest u) : QSs X C (s1 :: s2 :: rest) (vFrz i a b u) := by
  obtain ⟨t1, p1, n1⟩ := h1.ex
  obtain ⟨t2, p2, n2⟩ := h2.ex
  obtain ⟨t3, p3, n3⟩ := h3.ex
  refine ⟨_, pss_cons p1 (pss_cons p2 p3), fun Ed γ M σ H E r l h => ?_⟩
  refine n1 { Ed with nx := b { Ed with nx := frzK i M (u Ed) } } γ M σ H { E with nx := tSeq t2 t3 E } r ⟨fun γ1 M1 σ1 H1 r1 e1 h1 => ?_, l.rt, l.bk, l.ct, l.xx⟩ h
  have l1 := l.ext e1
  refine n2 { Ed with nx := frzK i M (u Ed) } γ1 M1 σ1 H1 { E with nx := t3 E } r1 ⟨fun γ' M' σ' H' r' e' h' => ?_, l1.rt, l1.bk, l1.ct, l1.xx⟩ h1
  obtain ⟨q, es, hg, hn, hm, hf, hu⟩ := h'
  have e := e1.trans e'
  have keep : ∀ a, a ≠ q → mdel M' q a = M' a := fun a ha => by unfold mdel; rw [if_neg ha]
  have sub : Sub (mdel M' q) M' := fun a m ha => by
    unfold mdel at ha
    split at ha
    · cases ha
    · exact ha
  have e2 : Ext M (mdel M' q) H H' := e.sub sub fun a ha => by
    have ne : a ≠ q := fun z => by rw [z, hn] at ha; cases ha
    rw [keep a ne]
    exact e.ow a ha
  refine n3 Ed _ _ σ' H' E ⟨?_, r'.ow.sub sub⟩ (l.ext e2) hu
  refine slR_frz (fun a ha => sub.non ha) keep (fun v i => ?_) r'.sl hg hf
  unfold Is at i
  obtain ⟨pu, xs, ha, hl⟩ := r'.ow q _ hm
  unfold Is
  exact ⟨q, xs, i.1, by unfold mdel; rw [if_pos rfl], ha, IsL.sub (fun a ha => sub.non ha) es xs pu hl⟩
end
end Dl
namespace Dl
open PySem L2
/-! ### methods and calls of lines that may raise; raise C() -/
def bmV : List Value := [.type "ValueError", .type "Exception", .type "BaseException", .type "object"]
/-- what raise C() asks of a class without own __init__ -/
structure ExK0 (K : PySem.W.Frag) (mg : Str → Option Value) (c : Str) : Prop where
  ex : mg c = some (.ref (He.ga K c)) ∧ PySem.W.excIn K (He.ga K c) bmV "ValueError.__new__" = true ∧ PySem.W.keepIn K (.ref (He.ga K c)) = true ∧ PySem.W.subIn K (.ref (He.ga K c)) (.type "BaseException") = some true ∧
    PySem.W.typeIn K (.ref (He.ga K c)) = some (.type "type") ∧ PySem.W.exmOne K (.ref (He.ga K c)) (.ref (He.ga K "FourTestsError")) = some true ∧ noFld c = true
def exk0B (K : PySem.W.Frag) (c : Str) : Bool := PySem.W.excIn K (He.ga K c) bmV "ValueError.__new__" && (PySem.W.keepIn K (.ref (He.ga K c)) && (decide (PySem.W.subIn K (.ref (He.ga K c)) (.type "BaseException") = some true) && (decide (PySem.W.typeIn K (.ref (He.ga K c)) = some (.type "type")) &&
  (decide (PySem.W.exmOne K (.ref (He.ga K c)) (.ref (He.ga K "FourTestsError")) = some true) && noFld c))))
theorem exk0B_ok {K : PySem.W.Frag} {mg : Str → Option Value} {c : Str} (g : mg c = some (.ref (He.ga K c))) (h : exk0B K c = true) : ExK0 K mg c := by
  obtain ⟨h1, h⟩ := He.ba h
  obtain ⟨h2, h⟩ := He.ba h
  obtain ⟨h3, h⟩ := He.ba h
  obtain ⟨h4, h⟩ := He.ba h
  obtain ⟨h5, h6⟩ := He.ba h
  exact ⟨g, h1, h2, of_decide_eq_true h3, of_decide_eq_true h4, of_decide_eq_true h5, h6⟩
section
variable {X : Cx} {C : Addr} {j k n : Nat} {S : DSp} {Sx : DSx} {o e fe : Expr} {es : List Expr} {m x c : Str} {pos pos' apos p : Pos} {f g : Addr} {fd : FuncData} {ps : List Str} {sp : Sp} {ta : TE} {t : TA}
/-- C() -/
theorem pmk_own0 {D : Addr} {bmB : List Value} {B newId initId : String} (F : ExcBaseFacts B newId initId bmB) (q : PySem.W.excIn X.K D bmB newId = true) (gC : X.mg x = some (.ref D)) (kC : PySem.W.keepIn X.K (.ref D) = true) (r : Raises X (.ref D)) (hg : Gl X x)
    (hdb : (x == ("__debug__" : Str)) = false := by decide) : PMk X (.Call (.Name x p) [] [] pos) (fun _ H Q => Q (.ref D) none H) := by
  intro pins s σ H Q I h
  refine wpAny_Call_Name_kw (ld_glob I hg gC ?_ hdb)
  refine PySem.W.callWith_K0 I.kIn kC ?_
  show wpAny _ _ (call (.ref D) []) _ _ _
  obtain ⟨bm, N, nm, qn, bs, hdct, sn, sub, ab, col, dd, k0, k1, k2, k3, k5, mN, hC, hN, hni, T⟩ := exc_obj I.kIn q
  refine wpAny_call_exc_subT F T hC hN hni (fun h' e hm => ?_) (Nat.zero_le _)
  exact mk_of I hm r h (I.hok.gone hm.new)
def vRaise0 (c : Str) : DS := fun Ed γ M => Ed.xx γ ⟨c, .non⟩ M
theorem e_vRaise0 (c : Str) (Ed : DEnds) (γ : Gm) (M : Mem) : vRaise0 c Ed γ M = Ed.xx γ ⟨c, .non⟩ M := propext Iff.rfl
theorem qs_raise0 (h : ExK0 X.K X.mg c) (hg : Gl X c := by rfl) (hc : X.calm = true := by rfl) (hdb : (c == ("__debug__" : Str)) = false := by decide) : QS X C (.Raise (some (.Call (.Name c p) [] [] pos)) none pos') (vRaise0 c) := by
  obtain ⟨h1, h2, h3, h4, h5, h6, h7⟩ := h.ex
  exact ⟨_, ps_raise hc takes_wX (pmk_own0 PySem.F.excBase_ValueError h2 h1 h3 (raises_own h4 h5) hg hdb), fun Ed γ M σ H E r l hv => l.xx γ M σ _ ⟨c, .non⟩ _ none r ⟨rfl, h6, .inl ⟨h7, rfl⟩⟩ Ext.refl hv⟩
/-! methods -/
structure MOkX (P : Program) (w : World) (K : PySem.W.Frag) (mg : Str → Option Value) (base : Heap) (C : Addr) (k : Nat) (m : Str) (n : Nat) (S : DSp) (Sx : DSx) : Prop where
  ex : ∃ (f : Addr) (fd : FuncData) (ps : List Str), Cls K C ∧ Meth K C m f ∧ (m == ("parts" : Str)) = false ∧ FnOk P w K mg base (CXp P w) k f fd ps (spU ⟨K, C⟩ n S Sx) ∧ Binds K fd ps []
structure COkX (P : Program) (w : World) (K : PySem.W.Frag) (mg : Str → Option Value) (base : Heap) (C : Addr) (k n : Nat) (S : DSp) (Sx : DSx) : Prop where
  ex : ∃ (g : Addr) (fd : FuncData) (ps : List Str), StX.CallO K C g ∧ FnOk P w K mg base (CXp P w) k g fd ps (spU ⟨K, C⟩ n S Sx) ∧ Binds K fd ps []
def vObjX (n : Nat) (S : DSp) (Sx : DSx) (o : DEX) (a : DAX) : DEX := fun γ M R Xd => o γ M (fun d M1 => isLn d = true ∧ a γ M1 (fun ds M2 => ds.length + 1 = n ∧ (S (d :: ds) M2 R noX ∨ Sx (d :: ds) M2 Xd)) Xd) Xd
theorem e_vObjX (n : Nat) (S : DSp) (Sx : DSx) (o : DEX) (a : DAX) (γ : Gm) (M : Mem) (R : DR) (Xd : DX) : vObjX n S Sx o a γ M R Xd = (o γ M (fun d M1 => isLn d = true ∧ a γ M1 (fun ds M2 => ds.length + 1 = n ∧ (S (d :: ds) M2 R noX ∨ Sx (d :: ds) M2 Xd)) Xd) Xd) := propext Iff.rfl
def tMethW (X : Cx) (C : Addr) (m : Str) (sp : Sp) (ta : TE) (t : TA) : TE := fun σ H Q => ta σ H fun x H1 => ∃ a dx fs, x = .ref a ∧ H1 a = some (.ins C dx fs) ∧ fs.lookup m = none ∧
  t σ H1 fun vs H2 => ∃ E : XK, sp (x :: vs) H2 Q E ∧ ∀ cls d H', E cls d H' → wX X cls d σ H'
theorem code_selfW {pins : List (Addr × Obj)} {σ : St} {H : Hp} {s : Shared} {Q : VK} {E : XK} {a : Addr} {us : List Value} {vs : List V} (F : FnOk X.prog X.w X.K X.mg X.base (CXp X.prog X.w) k f fd ps sp) (hr : Room k X.A) (hb : Binds X.K fd ps []) (r : Vals vs us)
    (I : Inv X pins σ H s) (h : sp (V.ref a :: vs) H Q E) (hW : ∀ cls d H', E cls d H' → wX X cls d σ H') : codeAny (model X.prog X.w) X.A (.call (.ref f) ⟨Value.ref a :: us, []⟩) (fun r s' => match r with
      | .ok (.ret v) => EP X pins σ Q v s'
      | .ok _ => False
      | .error e => X.xe e s') s := by
  have r2 : Vals (V.ref a :: vs) (Value.ref a :: us) := .cons rfl r
  have hl : (Value.ref a :: us).length = ps.length := by rw [← r2.length]; exact F.len _ _ _ _ h
  have b := hb s (Value.ref a :: us) I.kIn (by rw [List.append_nil]; exact hl)
  rw [List.append_nil] at b
  refine codeAny_mono (F.run X.A X.stack s H ⟨Value.ref a :: us, []⟩ (Value.ref a :: us) _ Q E hr I.env0 b r2 h) fun z s' hz => ?_
  match z, hz with
  | .error u, hz => exact cx_xe I hW u s' hz
  | .ok (.ret u), hz => exact I.after hz
  | .ok .next, hz => exact hz.elim
  | .ok .brk, hz => exact hz.elim
  | .ok .cont, hz => exact hz.elim
theorem run_selfW {pins : List (Addr × Obj)} {σ : St} {H : Hp} {s : Shared} {Q : VK} {E : XK} {a : Addr} {us : List Value} {vs : List V} (F : FnOk X.prog X.w X.K X.mg X.base (CXp X.prog X.w) k f fd ps sp) (hr : Room k X.A) (hb : Binds X.K fd ps []) (r : Vals vs us)
    (I : Inv X pins σ H s) (h : sp (V.ref a :: vs) H Q E) (hW : ∀ cls d H', E cls d H' → wX X cls d σ H') : wpAny (model X.prog X.w) X.A (call (.ref f) (.ref a :: us)) (EP X pins σ Q) X.xe s := wpAny_call (code_selfW F hr hb r I h hW)
theorem pe_methW {pl : Sem Bool} (he : PE X o ta) (c : Cls X.K C) (hm : Meth X.K C m f) (F : FnOk X.prog X.w X.K X.mg X.base (CXp X.prog X.w) k f fd ps sp) (hr : Room k X.A) (hb : Binds X.K fd ps []) (ha : PA X (e :: es) t)
    (hst : starEach (e :: es) X.env = (false, eval e X.env) :: starEach es X.env := by rfl) (hpl : (backTo pos (starEach es X.env)).any (·.1) = false := by rfl)
    (ht : eval (.Call (.Attribute o m apos) (e :: es) [] pos) X.env = (do
      let ov ← eval o X.env
      standAt apos.atName
      let (f, first) ← holding [ov] (getMethod ov m pl)
      callWith pos f first (backTo pos (starEach (e :: es) X.env)) (backToKw pos (keywordEach [] X.env))) := by rfl) :
    PE X (.Call (.Attribute o m apos) (e :: es) [] pos) (tMethW X C m sp ta t) := by
  refine ⟨fun pins s σ H Q I h => ?_⟩
  refine PySem.W.methodCall_KW (pl := pl) (thn (he.run pins s σ H _ I h) fun u s1 ⟨x, H1, I1, rx, a, dx, fs, ex, ea, l, q⟩ => ?_) ht
  subst ex
  obtain rfl : u = Value.ref a := rx
  refine getmeth_ok I1 ea c hm l ?_
  refine PySem.W.callWith_K (first := [.ref a]) (h₀ := X.base) I.ok.mod.kin hm.kp (thn (ha.run pos pins s1 σ H1 _ I1 q) fun us s2 ⟨vs, H2, I2, r, E, q2, hW⟩ => ⟨I2.kIn, ?_⟩) hst hpl
  exact run_selfW F hr hb r I2 q2 hW
theorem pe_methW0 {pl : Sem Bool} (he : PE X o ta) (c : Cls X.K C) (hm : Meth X.K C m f) (F : FnOk X.prog X.w X.K X.mg X.base (CXp X.prog X.w) k f fd ps sp) (hr : Room k X.A) (hb : Binds X.K fd ps [])
    (ht : eval (.Call (.Attribute o m apos) [] [] pos) X.env = (do
      let ov ← eval o X.env
      standAt apos.atName
      let (f, first) ← holding [ov] (getMethod ov m pl)
      callWith pos f first (backTo pos (starEach [] X.env)) (backToKw pos (keywordEach [] X.env))) := by rfl) :
    PE X (.Call (.Attribute o m apos) [] [] pos) (tMethW X C m sp ta tNil) := by
  refine ⟨fun pins s σ H Q I h => ?_⟩
  refine PySem.W.methodCall_KW (pl := pl) (thn (he.run pins s σ H _ I h) fun u s1 ⟨x, H1, I1, rx, a, dx, fs, ex, ea, l, q⟩ => ?_) ht
  subst ex
  obtain rfl : u = Value.ref a := rx
  refine getmeth_ok I1 ea c hm l ?_
  obtain ⟨E, q2, hW⟩ := q
  exact PySem.W.callWith_K0 (first := [.ref a]) I1.kIn hm.kp (run_selfW F hr hb .nil I1 q2 hW)
theorem q_methX {vo : DEX} {va : DAX} (h : MOkX X.prog X.w X.K X.mg X.base C k m n S Sx) (hr : Room j X.A) (hkj : k ≤ j) (ho : QEX X C o vo) (ha : QAX X C (e :: es) va)
    (hpe : ∀ {f : Addr} {fd : FuncData} {ps : List Str} {sp : Sp} {to : TE} {ta : TA}, PE X o to → Cls X.K C → Meth X.K C m f → FnOk X.prog X.w X.K X.mg X.base (CXp X.prog X.w) k f fd ps sp → Room k X.A → Binds X.K fd ps [] → PA X (e :: es) ta → PE X (.Call (.Attribute o m apos) (e :: es) [] pos) (tMethW X C m sp to ta) := by exact fun h1 h2 h3 h4 h5 h6 h7 => pe_methW h1 h2 h3 h4 h5 h6 h7) :
    QEX X C (.Call (.Attribute o m apos) (e :: es) [] pos) (vObjX n S Sx vo va) := by
  obtain ⟨f, fd, ps, c, hm, hp, F, hb⟩ := h.ex
  obtain ⟨to, po, so⟩ := ho.ex
  obtain ⟨ta, pa, sa⟩ := ha.ex
  refine ⟨_, hpe po c hm F (hr.mono hkj) hb pa, fun γ M R Xd σ H Q r h kk kx => so γ M _ Xd σ H _ r h (fun d M1 x H1 o1 i1 e1 h1 => ?_) kx⟩
  obtain ⟨hd, h1⟩ := h1
  obtain ⟨a, dx, q, ex, hx⟩ := ln_at i1 hd
  refine ⟨a, dx, _, ex, hx, lk_parts hp, sa γ M1 _ Xd σ H1 _ (r.mk' e1 o1) h1 (fun ds M2 xs H2 o2 i2 e2 h2 => ?_) (kx.ext e1)⟩
  exact spU_of (ds := d :: ds) h2.1 o2 (IsL.cons (Is.ext e2 d x i1) i2) h2.2 (fun d3 M3 y H3 o3 i3 e3 h3 => kk d3 M3 y H3 o3 i3 ((e1.trans e2).trans e3) h3) (kx.ext (e1.trans e2))
theorem q_methX0 {vo : DEX} (h : MOkX X.prog X.w X.K X.mg X.base C k m n S Sx) (hr : Room j X.A) (hkj : k ≤ j) (ho : QEX X C o vo)
    (hpe : ∀ {f : Addr} {fd : FuncData} {ps : List Str} {sp : Sp} {to : TE}, PE X o to → Cls X.K C → Meth X.K C m f → FnOk X.prog X.w X.K X.mg X.base (CXp X.prog X.w) k f fd ps sp → Room k X.A → Binds X.K fd ps [] → PE X (.Call (.Attribute o m apos) [] [] pos) (tMethW X C m sp to tNil) := by exact fun h1 h2 h3 h4 h5 h6 => pe_methW0 h1 h2 h3 h4 h5 h6) :
    QEX X C (.Call (.Attribute o m apos) [] [] pos) (vObjX n S Sx vo (aL vNil)) := by
  obtain ⟨f, fd, ps, c, hm, hp, F, hb⟩ := h.ex
  obtain ⟨to, po, so⟩ := ho.ex
  refine ⟨_, hpe po c hm F (hr.mono hkj) hb, fun γ M R Xd σ H Q r h kk kx => so γ M _ Xd σ H _ r h (fun d M1 x H1 o1 i1 e1 h1 => ?_) kx⟩
  obtain ⟨hd, h1⟩ := h1
  obtain ⟨a, dx, q, ex, hx⟩ := ln_at i1 hd
  refine ⟨a, dx, _, ex, hx, lk_parts hp, ?_⟩
  exact spU_of (ds := [d]) (xs := [x]) h1.1 o1 (IsL.cons i1 IsL.nil) h1.2 (fun d3 M3 y H3 o3 i3 e3 h3 => kk d3 M3 y H3 o3 i3 (e1.trans e3) h3) (kx.ext e1)
/-! a line, called -/
def tCallOW (X : Cx) (C : Addr) (sp : Sp) (tf : TE) (t : TA) : TE := fun σ H Q => tf σ H fun y H1 => ∃ a, y = .ref a ∧ t σ H1 fun vs H2 => StX.InsC X H2 a C ∧ ∃ E : XK, sp (V.ref a :: vs) H2 Q E ∧ ∀ cls d H', E cls d H' → wX X cls d σ H'
theorem pe_callOW (hf : PE X fe ta) (c : StX.CallO X.K C g) (F : FnOk X.prog X.w X.K X.mg X.base (CXp X.prog X.w) k g fd ps sp) (hr : Room k X.A) (hb : Binds X.K fd ps []) (ha : PA X (e :: es) t)
    (ht : eval (.Call fe (e :: es) [] pos) X.env = (do callWith pos (← eval fe X.env) [] (backTo pos (starEach (e :: es) X.env)) (backToKw pos (keywordEach [] X.env))) := by rfl)
    (he : starEach (e :: es) X.env = (false, eval e X.env) :: starEach es X.env := by rfl) (hpl : (backTo pos (starEach es X.env)).any (·.1) = false := by rfl) : PE X (.Call fe (e :: es) [] pos) (tCallOW X C sp ta t) := by
  refine ⟨fun pins s σ H Q I h => ?_⟩
  refine PyProof.Rows.Call_ (thn (hf.run pins s σ H _ I h) fun u s1 ⟨y, H1, I1, ry, a, ey, q⟩ => ?_) ht
  subst ey
  obtain rfl : u = Value.ref a := ry
  refine StX.callO_with (thn (ha.run pos pins s1 σ H1 _ I1 q) fun us s2 ⟨vs, H2, I2, r, hi, E, q2, hW⟩ => ?_) he hpl
  obtain ⟨ox, od, J, hd⟩ := StX.insC_at I2 hi
  exact ⟨⟨C, ox, od, J, hd⟩, wpAny_call (PySem.W.kco_code I2.kIn J hd c.at_ c.fn c.fi (code_selfW F hr hb r I2 q2 hW))⟩
theorem q_callOX {vf : DEX} {va : DAX} (h : COkX X.prog X.w X.K X.mg X.base C k n S Sx) (hr : Room j X.A) (hkj : k ≤ j) (hf : QEX X C fe vf) (ha : QAX X C (e :: es) va)
    (ht : eval (.Call fe (e :: es) [] pos) X.env = (do callWith pos (← eval fe X.env) [] (backTo pos (starEach (e :: es) X.env)) (backToKw pos (keywordEach [] X.env))) := by rfl)
    (he : starEach (e :: es) X.env = (false, eval e X.env) :: starEach es X.env := by rfl) (hpl : (backTo pos (starEach es X.env)).any (·.1) = false := by rfl) : QEX X C (.Call fe (e :: es) [] pos) (vObjX n S Sx vf va) := by
  obtain ⟨g, fd, ps, c, F, hb⟩ := h.ex
  obtain ⟨to, po, so⟩ := hf.ex
  obtain ⟨ta, pa, sa⟩ := ha.ex
  refine ⟨_, pe_callOW po c F (hr.mono hkj) hb pa ht he hpl, fun γ M R Xd σ H Q r h kk kx => so γ M _ Xd σ H _ r h (fun d M1 x H1 o1 i1 e1 h1 => ?_) kx⟩
  obtain ⟨hd, h1⟩ := h1
  obtain ⟨a, dx, q, ex, hx⟩ := ln_at i1 hd
  refine ⟨a, ex, sa γ M1 _ Xd σ H1 _ (r.mk' e1 o1) h1 (fun ds M2 xs H2 o2 i2 e2 h2 => ⟨?_, ?_⟩) (kx.ext e1)⟩
  · obtain ⟨a', dx', q', ex', hx'⟩ := ln_at (Is.ext e2 d x i1) hd
    have : a' = a := by rw [ex] at ex'; cases ex'; rfl
    subst this
    exact .inr ⟨dx', _, hx'⟩
  · rw [← ex]
    exact spU_of (ds := d :: ds) h2.1 o2 (IsL.cons (Is.ext e2 d x i1) i2) h2.2 (fun d3 M3 y H3 o3 i3 e3 h3 => kk d3 M3 y H3 o3 i3 ((e1.trans e2).trans e3) h3) (kx.ext (e1.trans e2))
/-- a, b = x, y -/
def vParX (i j : Nat) (a : DAX) : DS := fun Ed γ M => a γ M (fun ds M1 => match ds with
  | [x, y] => Ed.nx (gset (gset γ i (some x)) j (some y)) M1
  | _ => False) (Ed.xx γ)
theorem e_vParX (i j : Nat) (a : DAX) (Ed : DEnds) (γ : Gm) (M : Mem) : vParX i j a Ed γ M = (a γ M (fun ds M1 => match ds with
  | [x, y] => Ed.nx (gset (gset γ i (some x)) j (some y)) M1
  | _ => False) (Ed.xx γ)) := propext Iff.rfl
theorem qs_parX {i j : Nat} {x y : Str} {a b : Expr} {va : DAX} {px py pt : Pos} {kt k2 pt2} (hN : X.N.Nodup) (ha : QAX X C [a, b] va) (hi : X.N[i]? = some x := by rfl) (hj : X.N[j]? = some y := by rfl) (hij : i ≠ j := by decide)
    (hx : X.env.scope.names.lookup x = some .local := by rfl) (hy : X.env.scope.names.lookup y = some .local := by rfl) (hc : X.calm = true := by rfl)
    (hw : swappedStores [.Tuple [.Name x px, .Name y py] kt pt] (.Tuple [a, b] k2 pt2) X.env = pure (some [x, y]) := by rfl)
    (hs : swapsWithSole [.Tuple [.Name x px, .Name y py] kt pt] (.Tuple [a, b] k2 pt2) pos.line X.env = pure false := by rfl) :
    QS X C (.Assign [.Tuple [.Name x px, .Name y py] kt pt] (.Tuple [a, b] k2 pt2) pos) (vParX i j va) := by
  obtain ⟨ta, pa, sa⟩ := ha.ex
  refine ⟨_, ps_par hc hN hi hj hij hx hy pa hw hs, fun Ed γ M σ H E r l h => sa γ M _ (Ed.xx γ) σ H _ r h (fun ds M1 xs H1 o1 i1 e1 h1 => ?_) (l.xok r)⟩
  match ds, h1 with
  | [d, f], h1 =>
    obtain ⟨v, w, e2, q1, q2⟩ := isL2 i1
    exact ⟨v, w, e2, l.nx _ M1 _ H1 ⟨((r.sl.ext e1).set q1).set q2, o1⟩ e1 h1⟩
end
end Dl
namespace Dl
open PySem L2
/-! ### texts: str(int), f'..', join, repr of a line -/
def oStrI : DC := fun ds M R => match ds with
  | [.int i] => i.natAbs.log2 < 1920 ∧ R (.str (toString i)) M
  | _ => False
theorem f_strI {i : Int} {M : Mem} {R : DR} : oStrI [.int i] M R = (i.natAbs.log2 < 1920 ∧ R (.str (toString i)) M) := id rfl
theorem b_strI {X : Cx} {C : Addr} : BQ X C (.type "str") oStrI := ⟨_, call_str_int, fun ds M R H xs Q o i1 h k => by
  match ds, h with
  | [.int i], h =>
    obtain ⟨v, e, q⟩ := isL1 i1
    unfold Is at q
    exact ⟨i, by rw [e, q], h.1, k _ M _ H o is_str Ext.refl h.2⟩⟩
/-- the texts of a list -/
def strsOf : List D → Option (List Str)
  | [] => some []
  | .str x :: ds => (match strsOf ds with
    | some xs => some (x :: xs)
    | none => none)
  | _ :: _ => none
theorem strsOf_ok {G : Gx} {M : Mem} {H : Hp} : ∀ (ds : List D) (vs : List V) (xs : List Str), IsL G M H ds vs → strsOf ds = some xs → vs = xs.map V.str
  | [], vs, xs, i, e => by
    cases e
    cases vs with
    | nil => rfl
    | cons _ _ => unfold IsL at i; exact i.elim
  | .str x :: ds, vs, xs, i, e => by
    unfold strsOf at e
    split at e
    · rename_i ys ey
      cases e
      cases vs with
      | nil => unfold IsL at i; exact i.elim
      | cons v vs =>
        unfold IsL at i
        obtain ⟨i1, i2⟩ := i
        unfold Is at i1
        rw [i1, strsOf_ok ds vs ys i2 ey]
        rfl
    · cases e
  | .non :: _, _, _, _, e => by unfold strsOf at e; cases e
  | .bl _ :: _, _, _, _, e => by unfold strsOf at e; cases e
  | .int _ :: _, _, _, _, e => by unfold strsOf at e; cases e
  | .tup _ :: _, _, _, _, e => by unfold strsOf at e; cases e
  | .lst _ :: _, _, _, _, e => by unfold strsOf at e; cases e
  | .scr _ :: _, _, _, _, e => by unfold strsOf at e; cases e
  | .ln _ _ _ :: _, _, _, _, e => by unfold strsOf at e; cases e
  | .own _ :: _, _, _, _, e => by unfold strsOf at e; cases e
  | .exn _ _ :: _, _, _, _, e => by unfold strsOf at e; cases e
  | .exn0 _ :: _, _, _, _, e => by unfold strsOf at e; cases e
  | .cls :: _, _, _, _, e => by unfold strsOf at e; cases e
  | .dct _ _ :: _, _, _, _, e => by unfold strsOf at e; cases e
def vJoin (a b : DE) : DE := fun γ M R => a γ M fun d M1 => match d with
  | .str x => b γ M1 fun e M2 => (match e with
    | .lst ds => (match strsOf ds with
      | some ys => (ys.map (·.length)).sum + ys.length * x.length ≤ 16777216 ∧ R (.str (Txt.join x ys)) M2
      | none => False)
    | _ => False)
  | _ => False
theorem e_vJoin (a b : DE) (γ : Gm) (M : Mem) (R : DR) : vJoin a b γ M R = (a γ M fun d M1 => match d with
  | .str x => b γ M1 fun e M2 => (match e with
    | .lst ds => (match strsOf ds with
      | some ys => (ys.map (·.length)).sum + ys.length * x.length ≤ 16777216 ∧ R (.str (Txt.join x ys)) M2
      | none => False)
    | _ => False)
  | _ => False) := propext Iff.rfl
section
variable {X : Cx} {C : Addr} {o e : Expr} {va ve : DE} {pos apos : Pos}
theorem q_join (ho : QE X C o va) (he : QE X C e ve) (hs : starEach [e] X.env = [(false, eval e X.env)] := by rfl) (hbase : attributeBase o "join" X.env (eval o X.env) = eval o X.env := by rfl) (hline : (apos.endLine == pos.line) = true := by rfl) :
    QE X C (.Call (.Attribute o "join" apos) [e] [] pos) (vJoin va ve) := by
  obtain ⟨to, po, so⟩ := ho.ex
  obtain ⟨te, pe, se⟩ := he.ex
  refine ⟨_, pe_join po pe hs hbase hline, fun γ M R σ H Q r h k => so γ M _ σ H _ r h fun d M1 x H1 o1 i1 e1 h1 => ?_⟩
  match d, h1 with
  | .str y, h1 =>
    unfold Is at i1
    subst i1
    refine ⟨⟨y, rfl⟩, se γ M1 _ σ H1 _ (r.mk' e1 o1) h1 fun d2 M2 x2 H2 o2 i2 e2 h2 => ?_⟩
    match d2, h2 with
    | .lst ds, h2 =>
      unfold Is at i2
      obtain ⟨a, xs, rfl, ma, ha, il⟩ := i2
      dsimp only at h2
      cases q : strsOf ds with
      | none => rw [q] at h2; exact h2.elim
      | some ys =>
        rw [q] at h2
        have ex := strsOf_ok ds xs ys il q
        subst ex
        exact ⟨y, a, ys, rfl, rfl, .inl (SqL.of ha), h2.1, k _ M2 _ H2 o2 is_str (e1.trans e2) h2.2⟩
/-- {x} of an f-string -/
def vFmt (a : DE) : DE := fun γ M R => a γ M fun d M1 => match d with
  | .int i => i.natAbs.log2 < 1920 ∧ R (.str (toString i)) M1
  | .str y => y.length ≤ sizeLine ∧ R (.str y) M1
  | _ => False
theorem e_vFmt (a : DE) (γ : Gm) (M : Mem) (R : DR) : vFmt a γ M R = (a γ M fun d M1 => match d with
  | .int i => i.natAbs.log2 < 1920 ∧ R (.str (toString i)) M1
  | .str y => y.length ≤ sizeLine ∧ R (.str y) M1
  | _ => False) := propext Iff.rfl
theorem q_fmt (he : QE X C e ve) : QE X C (.FormattedValue e (-1) none pos) (vFmt ve) := by
  obtain ⟨te, pe, se⟩ := he.ex
  refine ⟨_, pe_fmt pe, fun γ M R σ H Q r h k => se γ M _ σ H _ r h fun d M1 x H1 o1 i1 e1 h1 => ?_⟩
  match d, h1 with
  | .int i, h1 =>
    unfold Is at i1
    exact .inr ⟨i, i1, h1.1, k _ M1 _ H1 o1 is_str e1 h1.2⟩
  | .str y, h1 =>
    unfold Is at i1
    exact .inl ⟨y, i1, h1.1, k _ M1 _ H1 o1 is_str e1 h1.2⟩
/-- the parts of an f-string -/
def vJs : List DE → Str → Gm → Mem → (Str → Mem → Prop) → Prop
  | [], acc, _, M, R => R acc M
  | v :: vs, acc, γ, M, R => v γ M fun d M1 => match d with
    | .str y => (acc ++ y).length ≤ sizeLine ∧ vJs vs (acc ++ y) γ M1 R
    | _ => False
theorem e_vJs0 (acc : Str) (γ : Gm) (M : Mem) (R : Str → Mem → Prop) : vJs [] acc γ M R = R acc M := id rfl
theorem e_vJs1 (v : DE) (vs : List DE) (acc : Str) (γ : Gm) (M : Mem) (R : Str → Mem → Prop) : vJs (v :: vs) acc γ M R = (v γ M fun d M1 => match d with
    | .str y => (acc ++ y).length ≤ sizeLine ∧ vJs vs (acc ++ y) γ M1 R
    | _ => False) := id rfl
structure QJ (X : Cx) (C : Addr) (es : List Expr) (vs : List DE) : Prop where
  ex : ∃ ts, PJ X es ts ∧ ∀ (acc : Str) (γ : Gm) (M : Mem) (R : Str → Mem → Prop) (σ : St) (H : Hp) (Q : Str → Hp → Prop), Rel ⟨X.K, C⟩ M γ σ H → vJs vs acc γ M R →
    (∀ y M' H', Own ⟨X.K, C⟩ M' H' → Ext M M' H H' → R y M' → Q y H') → tJs ts acc σ H Q
theorem qj_nil : QJ X C [] [] := ⟨[], .nil, fun acc γ M R σ H Q r h k => k acc M H r.ow Ext.refl h⟩
theorem qj_cons {es : List Expr} {vs : List DE} (he : QE X C e ve) (hr : QJ X C es vs) : QJ X C (e :: es) (ve :: vs) := by
  obtain ⟨te, pe, se⟩ := he.ex
  obtain ⟨ts, pj, sj⟩ := hr.ex
  refine ⟨_, .cons pe pj, fun acc γ M R σ H Q r h k => se γ M _ σ H _ r h fun d M1 x H1 o1 i1 e1 h1 => ?_⟩
  match d, h1 with
  | .str y, h1 =>
    unfold Is at i1
    exact ⟨y, i1, h1.1, sj _ γ M1 R σ H1 Q (r.mk' e1 o1) h1.2 fun z M' H' o' e' h' => k z M' H' o' (e1.trans e') h'⟩
def vFs (vs : List DE) : DE := fun γ M R => vJs vs Str.empty γ M fun y M1 => R (.str y) M1
theorem e_vFs (vs : List DE) (γ : Gm) (M : Mem) (R : DR) : vFs vs γ M R = vJs vs Str.empty γ M (fun y M1 => R (.str y) M1) := id rfl
theorem q_fs {v1 v2 : Expr} {rest : List Expr} {vs : List DE} (h : QJ X C (v1 :: v2 :: rest) vs) : QE X C (.JoinedStr (v1 :: v2 :: rest) pos) (vFs vs) := by
  obtain ⟨ts, pj, sj⟩ := h.ex
  exact ⟨_, pe_joined pj, fun γ M R σ H Q r hv k => sj _ γ M _ σ H _ r hv fun y M' H' o' e' h' => k _ M' _ H' o' is_str e' h'⟩
/-- repr of a line -/
def strB : D → Bool
  | .str _ => true
  | _ => false
def oReprL (S : DSp) : DC := fun ds M R => match ds with
  | [d] => isLn d = true ∧ S [d] M (fun e M' => strB e = true ∧ R e M') noX
  | _ => False
theorem e_oReprL (S : DSp) (d : D) (M : Mem) (R : DR) : oReprL S [d] M R = (isLn d = true ∧ S [d] M (fun e M' => strB e = true ∧ R e M') noX) := id rfl
theorem b_reprL {j k : Nat} {S : DSp} (h : UOk X.prog X.w X.K X.mg X.base C k "__repr__" 1 S) (hr : Room j X.A) (hkj : k + 1 ≤ j) : BQ X C (.builtin "repr") (oReprL S) := by
  obtain ⟨f, fd, ps, hm, hf, F, hb⟩ := h.ex
  refine ⟨fun xs H Q => ∃ a dx fs, xs = [V.ref a] ∧ H a = some (.ins C dx fs) ∧ spD ⟨X.K, C⟩ 1 S [V.ref a] H (fun v H' => (∃ y, v = .str y) ∧ Q v H') E0, fun pins s σ H xs us Q I r h => ?_, fun ds M R H xs Q o i1 h k => ?_⟩
  · obtain ⟨a, dx, fs, rfl, ea, hsp⟩ := h
    obtain ⟨u, rfl, t⟩ := vals1 r
    obtain rfl : u = Value.ref a := t
    obtain ⟨m, Fr⟩ := inv_fr I
    obtain ⟨ox, od, J⟩ := inst_at I ea
    have rm : Room k X.A.in1 := (hr.mono hkj).in1
    refine PySem.W.repr_K (hr.mono (by omega : 1 ≤ j)).in1.units0 Fr I.ok.mod.kin J hm hf ?_
    have b := hb s [.ref a] I.kIn (by have := F.len _ _ _ _ hsp; exact this)
    rw [List.append_nil] at b
    refine wpAny_call (codeAny_mono (F.run X.A.in1 X.stack s H ⟨[.ref a], []⟩ [.ref a] [V.ref a] _ E0 rm I.env0.in1 b (.cons rfl .nil) hsp) fun z s' hz => ?_)
    match z, hz with
    | .error u, hz => exact hz.elim
    | .ok (.ret u), hz =>
      obtain ⟨v, H', I', rv, ⟨y, ey⟩, q⟩ := I.after hz
      subst ey
      obtain ⟨tk, rfl⟩ := rv
      exact ⟨.str y, H', I', ⟨tk, rfl⟩, q⟩
    | .ok .next, hz => exact hz.elim
    | .ok .brk, hz => exact hz.elim
    | .ok .cont, hz => exact hz.elim
  · match ds, h with
    | [d], h =>
      obtain ⟨v, rfl, i⟩ := isL1 i1
      obtain ⟨a, dx, q, ex, hx⟩ := ln_at i h.1
      refine ⟨a, dx, _, by rw [ex], hx, [d], M, _, rfl, by rw [← ex]; exact IsL.cons i IsL.nil, o, h.2, fun d' M' y H' o' i' e' h' => ⟨?_, k d' M' y H' o' i' e' h'.2⟩⟩
      have hs := h'.1
      cases d' <;> first | (unfold Is at i'; exact ⟨_, i'⟩) | cases hs
end
end Dl
namespace Dl
open PySem L2
/-! ### Line(..) that may raise -/
def spLnX (G : Gx) (Sx : DSx) : Sp := fun vs H _ E => ∃ (x dx : Addr) (ds : List D) (us : List V) (M : Mem) (Xd : DX), vs = .ref x :: us ∧ ds.length = 3 ∧ H x = some (.ins G.C dx []) ∧ IsL G M H ds us ∧ Own G M H ∧ Sx ds M Xd ∧
  ∀ xd M' cls d H', Own G M' H' → XIs G M' H' xd cls d → Ext M M' H H' → Xd xd M' → E cls d H'
def spLnU (G : Gx) (Sx : DSx) : Sp := fun vs H Q E => spLn G.C vs H Q E ∨ spLnX G Sx vs H Q E
theorem fn_bothL {P : Program} {w : World} {K : PySem.W.Frag} {mg : Str → Option Value} {base : Heap} {k j : Nat} {f : Addr} {fd : FuncData} {ps : List Str} {G : Gx} {Sx : DSx} (F : FnOk P w K mg base CX0 k f fd ps (spLn G.C)) (Fx : FnOk P w K mg base (CXp P w) j f fd ps (spLnX G Sx)) :
    FnOk P w K mg base (CXp P w) (max k j) f fd ps (spLnU G Sx) :=
  ⟨fun vs H Q E h => h.elim (F.len vs H Q E) (Fx.len vs H Q E), fun A outer s H args us vs Q E hr he hb hv hs => by
    rcases hs with h | h
    · exact (fn_cx F).run A outer s H args us vs Q E (hr.mono (Nat.le_max_left _ _)) he hb hv h
    · exact Fx.run A outer s H args us vs Q E (hr.mono (Nat.le_max_right _ _)) he hb hv h⟩
structure LMkX (P : Program) (w : World) (K : PySem.W.Frag) (mg : Str → Option Value) (base : Heap) (C : Addr) (k : Nat) (Sx : DSx) : Prop where
  ex : ∃ (f : Addr) (fd : FuncData) (ps : List Str), mg "Line" = some (.ref C) ∧ Mk K C f ∧ FnOk P w K mg base (CXp P w) k f fd ps (spLnU ⟨K, C⟩ Sx) ∧ Binds K fd ps []
def vLineX (Sx : DSx) (a : DAX) : DEX := fun γ M R Xd => a γ M (fun ds M1 => (∃ t p o, ds = [.int t, .int p, .int o] ∧ 1 ≤ o ∧ R (.ln t p o) M1) ∨ (ds.length = 3 ∧ Sx ds M1 Xd)) Xd
theorem e_vLineX (Sx : DSx) (a : DAX) (γ : Gm) (M : Mem) (R : DR) (Xd : DX) : vLineX Sx a γ M R Xd = (a γ M (fun ds M1 => (∃ t p o, ds = [.int t, .int p, .int o] ∧ 1 ≤ o ∧ R (.ln t p o) M1) ∨ (ds.length = 3 ∧ Sx ds M1 Xd)) Xd) := propext Iff.rfl
section
variable {X : Cx} {C f : Addr} {j k : Nat} {Sx : DSx} {e : Expr} {es : List Expr} {x : Str} {p pos : Pos} {fd : FuncData} {ps : List Str} {sp : Sp} {t : TA}
def tMakeW (X : Cx) (C : Addr) (sp : Sp) (t : TA) : TE := fun σ H Q => t σ H fun vs H1 => ∀ x dx, H1 x = none → H1 dx = none → dx ≠ x →
  ∃ E : XK, sp (.ref x :: vs) (upd (upd H1 dx (.own x)) x (.ins C dx [])) (fun v H2 => v = .non ∧ Q (.ref x) H2) E ∧ ∀ cls d H', E cls d H' → wX X cls d σ H'
theorem run_makeW {pins : List (Addr × Obj)} {σ : St} {H : Hp} {s : Shared} {Q : VK} {us : List Value} {vs : List V} (M : Mk X.K C f) (F : FnOk X.prog X.w X.K X.mg X.base (CXp X.prog X.w) k f fd ps sp) (hr : Room (k + 1) X.A) (hb : Binds X.K fd ps [])
    (I : Inv X pins σ H s) (r : Vals vs us)
    (h : ∀ x dx, H x = none → H dx = none → dx ≠ x → ∃ E : XK, sp (.ref x :: vs) (upd (upd H dx (.own x)) x (.ins C dx [])) (fun v H2 => v = .non ∧ Q (.ref x) H2) E ∧ ∀ cls d H', E cls d H' → wX X cls d σ H') :
    wpAny (model X.prog X.w) X.A (call (.ref C) us) (EP X pins σ Q) X.xe s := by
  obtain ⟨E, hq, hW⟩ := h (s.heap.objs.size + 1) s.heap.objs.size (I.hok.fresh (Nat.le_succ _)) (I.hok.fresh (Nat.le_refl _)) (Nat.ne_of_lt (Nat.lt_succ_self _))
  have I2 := Inv.made (C := C) I
  have r2 : Vals (V.ref (s.heap.objs.size + 1) :: vs) (Value.ref (s.heap.objs.size + 1) :: us) := .cons rfl r
  have hl : (Value.ref (s.heap.objs.size + 1) :: us).length = ps.length := by
    have e := r2.length
    rw [F.len _ _ _ _ hq] at e
    exact e.symm
  have b := fun s' (kk : X.K.In s'.heap) => hb s' (Value.ref (s.heap.objs.size + 1) :: us) kk (by rw [List.append_nil]; exact hl)
  refine wpAny_call (make_map (f := f) I.kIn M.makes M.init (beq_iff_eq.mp M.fn) (codeAny_mono (F.run _ X.stack _ _ ⟨Value.ref (s.heap.objs.size + 1) :: us, []⟩ (Value.ref (s.heap.objs.size + 1) :: us) _ _ E (hr.make C us [])
    (I2.env0.make C us []) (by have z := b _ I2.kIn; rw [List.append_nil] at z; exact z) r2 hq) fun r s' hq' => ?_))
  cases r with
  | error e => exact cx_xe I2 hW e s' hq'
  | ok fl =>
    cases fl with
    | ret u =>
      obtain ⟨v, H', I3, rv, ev, q3⟩ := I2.after hq'
      subst ev
      exact ⟨rv, ⟨V.ref (s.heap.objs.size + 1), H', I3, rfl, q3⟩⟩
    | next => exact False.elim hq'
    | brk => exact False.elim hq'
    | cont => exact False.elim hq'
theorem pe_makeW (M : Mk X.K C f) (F : FnOk X.prog X.w X.K X.mg X.base (CXp X.prog X.w) k f fd ps sp) (hr : Room (k + 1) X.A) (hg : Gl X x) (hm : X.mg x = some (.ref C)) (hb : Binds X.K fd ps [])
    (ha : PA X (e :: es) t) (hdb : (x == ("__debug__" : Str)) = false := by decide) (he : starEach (e :: es) X.env = (false, eval e X.env) :: starEach es X.env := by rfl) (hpl : (backTo pos (starEach es X.env)).any (·.1) = false := by rfl) :
    PE X (.Call (.Name x p) (e :: es) [] pos) (tMakeW X C sp t) := by
  refine ⟨fun pins s σ H Q I h => ?_⟩
  refine wpAny_Call_Name_kw (ld_glob I hg hm ?_ hdb)
  refine PySem.W.callWith_K (h₀ := X.base) I.ok.mod.kin M.kp (thn (ha.run pos pins s σ H _ I h) fun us s1 ⟨vs, H1, I1, r, q⟩ => ⟨I1.kIn, ?_⟩) he hpl
  exact run_makeW M F hr hb I1 r q
theorem q_lineX {va : DAX} (h : LMkX X.prog X.w X.K X.mg X.base C k Sx) (hr : Room j X.A) (hkj : k + 1 ≤ j) (ha : QAX X C (e :: es) va) (hg : Gl X "Line" := by rfl) (he : starEach (e :: es) X.env = (false, eval e X.env) :: starEach es X.env := by rfl) (hpl : (backTo pos (starEach es X.env)).any (·.1) = false := by rfl) :
    QEX X C (.Call (.Name "Line" p) (e :: es) [] pos) (vLineX Sx va) := by
  obtain ⟨f, fd, ps, hm, mk, F, hb⟩ := h.ex
  obtain ⟨ta, pa, sa⟩ := ha.ex
  refine ⟨_, pe_makeW mk F (hr.mono hkj) hg hm hb pa (by decide) he hpl, fun γ M R Xd σ H Q r h kk kx => sa γ M _ Xd σ H _ r h (fun ds M1 xs H1 o1 i1 e1 h1 => ?_) kx⟩
  rcases h1 with ⟨t, p, o, rfl, ho, hR⟩ | ⟨hl, hs⟩
  · obtain ⟨v1, v2, v3, ev, j1, j2, j3⟩ := isL3 i1
    unfold Is at j1 j2 j3
    subst ev
    subst j1
    subst j2
    subst j3
    intro x dx hx hdx hne
    exact ⟨E0, .inl (snd_line o1 e1 ho hR kk x dx hx hdx hne), fun _ _ _ z => z.elim⟩
  · intro x dx hx hdx hne
    have hx2 : (upd H1 dx (HO.own x)) x = none := by rw [upd_ne hne.symm]; exact hx
    have en : Ext M1 M1 H1 (upd (upd H1 dx (.own x)) x (.ins C dx [])) := (Ext.new hdx).trans (Ext.new hx2)
    exact ⟨wishD X C M1 (upd (upd H1 dx (.own x)) x (.ins C dx [])) Xd, .inr ⟨x, dx, ds, xs, M1, Xd, rfl, hl, upd_same, IsL.ext en ds xs i1, (o1.new hdx).new hx2, hs, fun xd M' cls d H' o i e h => ⟨xd, M', o, i, e, h⟩⟩,
      fun cls d H' ⟨xd, M', o', i', e', h'⟩ => kx M' H' xd cls d o' i' (e1.trans (en.trans e')) h'⟩
end
end Dl
namespace Dl
open PySem L2
/-! ### the class as a value; class methods -/
section
variable {X : Cx} {C : Addr} {j k n : Nat} {S : DSp} {Sx : DSx} {o e fe : Expr} {es : List Expr} {vf vo : DE} {va : DA} {m : Str} {pos apos p : Pos}
theorem q_cls (hm : X.mg "Line" = some (.ref C)) (hg : Gl X "Line" := by rfl) : QE X C (.Name "Line" p) (vC .cls) :=
  ⟨_, pe_glob (v := .ref C) hg hm rfl, fun γ M R σ H Q r h k => k .cls M _ H r.ow (by unfold Is; rfl) Ext.refl h⟩
/-- cls(..) of a variable that holds the class -/
def isCls : D → Bool
  | .cls => true
  | _ => false
def vMakeV (f : DE) (a : DA) : DE := fun γ M R => f γ M fun d M1 => isCls d = true ∧ vLine a γ M1 R
theorem e_vMakeV (f : DE) (a : DA) (γ : Gm) (M : Mem) (R : DR) : vMakeV f a γ M R = (f γ M fun d M1 => isCls d = true ∧ vLine a γ M1 R) := propext Iff.rfl
theorem f_cls : isCls .cls = true := id rfl
def tMakeL (C : Addr) (sp : Sp) (tf : TE) (t : TA) : TE := fun σ H Q => tf σ H fun y H1 => y = .ref C ∧ t σ H1 fun vs H2 => ∀ x dx, H2 x = none → H2 dx = none → dx ≠ x →
  sp (.ref x :: (vs ++ [])) (upd (upd H2 dx (.own x)) x (.ins C dx [])) (fun v H3 => v = .non ∧ Q (.ref x) H3) E0
theorem pe_makeL {f : Addr} {fd : FuncData} {ps : List Str} {sp : Sp} {tf : TE} {t : TA} (hf : PE X fe tf) (M : Mk X.K C f) (F : FnOk X.prog X.w X.K X.mg X.base CX0 k f fd ps sp) (hr : Room (k + 1) X.A) (hb : Binds X.K fd ps []) (ha : PA X (e :: es) t)
    (ht : eval (.Call fe (e :: es) [] pos) X.env = (do callWith pos (← eval fe X.env) [] (backTo pos (starEach (e :: es) X.env)) (backToKw pos (keywordEach [] X.env))) := by rfl)
    (he : starEach (e :: es) X.env = (false, eval e X.env) :: starEach es X.env := by rfl) (hpl : (backTo pos (starEach es X.env)).any (·.1) = false := by rfl) : PE X (.Call fe (e :: es) [] pos) (tMakeL C sp tf t) := by
  refine ⟨fun pins s σ H Q I h => ?_⟩
  refine PyProof.Rows.Call_ (thn (hf.run pins s σ H _ I h) fun u s1 ⟨y, H1, I1, ry, ey, q⟩ => ?_) ht
  subst ey
  obtain rfl : u = Value.ref C := ry
  refine PySem.W.callWith_K (h₀ := X.base) I.ok.mod.kin M.kp (thn (ha.run pos pins s1 σ H1 _ I1 q) fun us s2 ⟨vs, H2, I2, r, q2⟩ => ⟨I2.kIn, ?_⟩) he hpl
  exact run_make (E := E0) M F hr hb .nil pass0 I2 r q2
theorem q_makeV (h : LMk X.prog X.w X.K X.mg X.base C k) (hr : Room j X.A) (hkj : k + 1 ≤ j) (hf : QE X C fe vf) (ha : QA X C (e :: es) va)
    (ht : eval (.Call fe (e :: es) [] pos) X.env = (do callWith pos (← eval fe X.env) [] (backTo pos (starEach (e :: es) X.env)) (backToKw pos (keywordEach [] X.env))) := by rfl)
    (he : starEach (e :: es) X.env = (false, eval e X.env) :: starEach es X.env := by rfl) (hpl : (backTo pos (starEach es X.env)).any (·.1) = false := by rfl) :
    QE X C (.Call fe (e :: es) [] pos) (vMakeV vf va) := by
  obtain ⟨f, fd, ps, hm, mk, F, hb⟩ := h.ex
  obtain ⟨tf, pf, sf⟩ := hf.ex
  obtain ⟨ta, pa, sa⟩ := ha.ex
  refine ⟨_, pe_makeL pf mk F (hr.mono hkj) hb pa ht he hpl, fun γ M R σ H Q r h kk => sf γ M _ σ H _ r h fun d M1 x H1 o1 i1 e1 h1 => ?_⟩
  obtain ⟨hd, h1⟩ := h1
  cases d with
  | cls =>
    unfold Is at i1
    refine ⟨i1, sa γ M1 _ σ H1 _ (r.mk' e1 o1) h1 fun ds M2 xs H2 o2 i2 e2 h2 => ?_⟩
    match ds, h2 with
    | [.int t, .int p, .int o], h2 =>
      obtain ⟨v1, v2, v3, ev, j1, j2, j3⟩ := isL3 i2
      unfold Is at j1 j2 j3
      subst ev
      subst j1
      subst j2
      subst j3
      exact snd_line o2 (e1.trans e2) h2.1 h2.2 kk
  | _ => cases hd
/-- Line.m(..), m a class method -/
structure CMOk (P : Program) (w : World) (K : PySem.W.Frag) (mg : Str → Option Value) (base : Heap) (C : Addr) (k : Nat) (m : Str) (n : Nat) (S : DSp) : Prop where
  ex : ∃ (mc : Value) (p g : Addr) (fd : FuncData) (ps : List Str), ClX.CRead K C mc ∧ ClX.CMet K C mc m p g ∧ FnOk P w K mg base CX0 k g fd ps (spD ⟨K, C⟩ n S) ∧ Binds K fd ps []
def vCm (n : Nat) (S : DSp) (o : DE) (a : DA) : DE := fun γ M R => o γ M fun d M1 => isCls d = true ∧ a γ M1 fun ds M2 => ds.length + 1 = n ∧ S (.cls :: ds) M2 R noX
theorem e_vCm (n : Nat) (S : DSp) (o : DE) (a : DA) (γ : Gm) (M : Mem) (R : DR) : vCm n S o a γ M R = (o γ M fun d M1 => isCls d = true ∧ a γ M1 fun ds M2 => ds.length + 1 = n ∧ S (.cls :: ds) M2 R noX) := propext Iff.rfl
theorem q_cmeth (h : CMOk X.prog X.w X.K X.mg X.base C k m n S) (hr : Room j X.A) (hkj : k ≤ j) (ho : QE X C o vo) (ha : QA X C (e :: es) va)
    (hpe : ∀ {mc : Value} {p g : Addr} {sp : Sp} {to : TE} {ta : TA}, PE X o to → ClX.CRead X.K C mc → ClX.CMet X.K C mc m p g → FnR X.prog X.w X.K X.mg X.base CX0 k g sp → Room k X.A → PA X (e :: es) ta → PE X (.Call (.Attribute o m apos) (e :: es) [] pos) (ClX.tCMeth C sp E0 to ta) := by exact fun h1 h2 h3 h4 h5 h6 => ClX.pe_cmeth h1 h2 h3 h4 h5 pass0 h6) :
    QE X C (.Call (.Attribute o m apos) (e :: es) [] pos) (vCm n S vo va) := by
  obtain ⟨mc, p, g, fd, ps, cr, cm, F, hb⟩ := h.ex
  obtain ⟨to, po, so⟩ := ho.ex
  obtain ⟨ta, pa, sa⟩ := ha.ex
  refine ⟨_, hpe po cr cm (raw0 F hb) (hr.mono hkj) pa, fun γ M R σ H Q r h kk => so γ M _ σ H _ r h fun d M1 x H1 o1 i1 e1 h1 => ?_⟩
  obtain ⟨hd, h1⟩ := h1
  cases d with
  | cls =>
    have i1' := i1
    unfold Is at i1
    refine ⟨i1, sa γ M1 _ σ H1 _ (r.mk' e1 o1) h1 fun ds M2 xs H2 o2 i2 e2 h2 => ?_⟩
    rw [← i1]
    exact spD_of h2.1 i1' o2 i2 e1 e2 h2.2 kk _
  | _ => cases hd
end
end Dl
namespace Dl
open PySem L2
/-! ### class methods at the head -/
def creadB (K : PySem.W.Frag) (C : Addr) : Bool := PySem.W.readsIn K C (.type "type") && He.eqO (PySem.W.specialIn K (.ref C) "__getattribute__") (some (some (.builtin "type.__getattribute__")))
theorem creadB_ok {K : PySem.W.Frag} {C : Addr} (h : creadB K C = true) : ClX.CRead K C (.type "type") := ⟨(He.ba h).1, He.eqO_ok (He.ba h).2⟩
def cmetB (K : PySem.W.Frag) (C : Addr) (m : Str) : Bool := creadB K C && (He5.wrapB K C "classmethod" "classmethod.__get__" m && PySem.W.fnIn K (He5.wf K C "classmethod" m))
theorem cmetB_ok {K : PySem.W.Frag} {C : Addr} {m : Str} (h : cmetB K C m = true) : ClX.CRead K C (.type "type") ∧ ClX.CMet K C (.type "type") m (He.ma K C m) (He5.wf K C "classmethod" m) := ⟨creadB_ok (He.ba h).1, He5.cmet_of (He.ba (He.ba h).2).1 (He.ba (He.ba h).2).2⟩
end Dl
namespace Dl
open PySem L2
/-! ### keyword calls of methods, of a called line, of class methods, of Line -/
section
variable {X : Cx} {C f g : Addr} {j k n : Nat} {S : DSp} {o fe : Expr} {vo vf : DE} {vk : DAX} {m : Str} {pos apos p : Pos} {kws : List Keyword} {ks : List Str} {fd : FuncData} {ps : List Str} {sp : Sp} {to : TE} {tk : TA} {pick : List D → List D → List D} {gg : List Value → List Value → List Value} {gV : List V → List V → List V} {vk : DA}
theorem code_selfK {pins : List (Addr × Obj)} {σ : St} {H : Hp} {s : Shared} {Q : VK} {a : Addr} {ws : List Value} {zs : List V} (F : FnOk X.prog X.w X.K X.mg X.base CX0 k f fd ps sp) (hr : Room k X.A) (hb : KBn X.K fd ps 1 ks gg gV) (r : Vals zs ws) (hl : zs.length = ks.length)
    (I : Inv X pins σ H s) (h : sp (gV [V.ref a] zs) H Q E0) : codeAny (model X.prog X.w) X.A (.call (.ref f) ⟨[Value.ref a], ks.zip ws⟩) (fun r s' => match r with
      | .ok (.ret v) => EP X pins σ Q v s'
      | .ok _ => False
      | .error e => X.xe e s') s := by
  refine codeAny_mono (F.run X.A X.stack s H ⟨[Value.ref a], ks.zip ws⟩ (gg [Value.ref a] ws) (gV [V.ref a] zs) Q E0 hr I.env0 (hb.to s [Value.ref a] ws I.kIn rfl (r.length.symm.trans hl)) (hb.rel (.cons rfl .nil) r) h) fun z s' hz => ?_
  match z, hz with
  | .error u, hz => exact hz.elim
  | .ok (.ret u), hz => exact I.after hz
  | .ok .next, hz => exact hz.elim
  | .ok .brk, hz => exact hz.elim
  | .ok .cont, hz => exact hz.elim
/-- how keywords bind, by data -/
def PickOk (K : PySem.W.Frag) (C : Addr) (pick : List D → List D → List D) (gV : List V → List V → List V) : Prop :=
  ∀ (M : Mem) (H : Hp) (ds zs : List D) (vs us : List V), IsL ⟨K, C⟩ M H ds vs → IsL ⟨K, C⟩ M H zs us → IsL ⟨K, C⟩ M H (pick ds zs) (gV vs us)
def vRecK (f : D → Bool) (n nk : Nat) (S : DSp) (pick : List D → List D → List D) (o : DE) (kw : DA) : DE := fun γ M R => o γ M fun d M1 => f d = true ∧ kw γ M1 fun zs M2 => zs.length = nk ∧ (pick [d] zs).length = n ∧ S (pick [d] zs) M2 R noX
theorem e_vRecK (f : D → Bool) (n nk : Nat) (S : DSp) (pick : List D → List D → List D) (o : DE) (kw : DA) (γ : Gm) (M : Mem) (R : DR) : vRecK f n nk S pick o kw γ M R = (o γ M fun d M1 => f d = true ∧ kw γ M1 fun zs M2 => zs.length = nk ∧ (pick [d] zs).length = n ∧ S (pick [d] zs) M2 R noX) := propext Iff.rfl
/-! methods -/
structure MKOk (P : Program) (w : World) (K : PySem.W.Frag) (mg : Str → Option Value) (base : Heap) (C : Addr) (k : Nat) (m : Str) (n : Nat) (S : DSp) (ks : List Str) (pick : List D → List D → List D) : Prop where
  ex : ∃ (f : Addr) (fd : FuncData) (ps : List Str) (g : List Value → List Value → List Value) (gV : List V → List V → List V), Cls K C ∧ Meth K C m f ∧ (m == ("parts" : Str)) = false ∧ FnOk P w K mg base CX0 k f fd ps (spD ⟨K, C⟩ n S) ∧ KBn K fd ps 1 ks g gV ∧ PickOk K C pick gV
def tMethK (C : Addr) (m : Str) (nk : Nat) (sp : Sp) (gV : List V → List V → List V) (ta : TE) (tk : TA) : TE := fun σ H Q => ta σ H fun x H1 => ∃ a dx fs, x = .ref a ∧ H1 a = some (.ins C dx fs) ∧ fs.lookup m = none ∧ tk σ H1 fun zs H2 => zs.length = nk ∧ sp (gV [x] zs) H2 Q E0
theorem pe_methK {pl : Sem Bool} (he : PE X o to) (c : Cls X.K C) (hm : Meth X.K C m f) (F : FnOk X.prog X.w X.K X.mg X.base CX0 k f fd ps sp) (hr : Room k X.A) (hb : KBn X.K fd ps 1 ks gg gV) (hkw : PK X kws tk)
    (hall : (backToKw pos (keywordEach kws X.env)).all (·.1.isSome) = true := by rfl) (hks : (backToKw pos (keywordEach kws X.env)).filterMap (·.1) = ks := by rfl)
    (hpl : ((backTo pos (starEach [] X.env)).any (·.1) || (backToKw pos (keywordEach kws X.env)).any (·.1.isNone)) = false := by rfl)
    (ht : eval (.Call (.Attribute o m apos) [] kws pos) X.env = (do
      let ov ← eval o X.env
      standAt apos.atName
      let (f, first) ← holding [ov] (getMethod ov m pl)
      callWith pos f first (backTo pos (starEach [] X.env)) (backToKw pos (keywordEach kws X.env))) := by rfl) :
    PE X (.Call (.Attribute o m apos) [] kws pos) (tMethK C m ks.length sp gV to tk) := by
  refine ⟨fun pins s σ H Q I h => ?_⟩
  refine PySem.W.methodCall_KW (pl := pl) (thn (he.run pins s σ H _ I h) fun u s1 ⟨x, H1, I1, rx, a, dx, fs, ex, ea, l, q⟩ => ?_) ht
  subst ex
  obtain rfl : u = Value.ref a := rx
  refine getmeth_ok I1 ea c hm l ?_
  refine PySem.W.callWith_KW0 (first := [.ref a]) (h₀ := X.base) I.ok.mod.kin hm.kp hall (thn (hkw.run pos pins s1 σ H1 _ I1 q) fun ws s2 ⟨zs, H2, I2, rz, l2, q2⟩ => ⟨I2.kIn, ?_⟩) hpl
  rw [hks]
  exact wpAny_call (code_selfK F hr hb rz l2 I2 q2)
theorem q_methK (h : MKOk X.prog X.w X.K X.mg X.base C k m n S ks pick) (hr : Room j X.A) (hkj : k ≤ j) (ho : QE X C o vo) (hkw : QK X C kws vk)
    (hpe : ∀ {f : Addr} {fd : FuncData} {ps : List Str} {sp : Sp} {to : TE} {tk : TA} {gg : List Value → List Value → List Value} {gV : List V → List V → List V}, PE X o to → Cls X.K C → Meth X.K C m f → FnOk X.prog X.w X.K X.mg X.base CX0 k f fd ps sp → Room k X.A → KBn X.K fd ps 1 ks gg gV → PK X kws tk → PE X (.Call (.Attribute o m apos) [] kws pos) (tMethK C m ks.length sp gV to tk) := by exact fun h1 h2 h3 h4 h5 h6 h7 => pe_methK h1 h2 h3 h4 h5 h6 h7) :
    QE X C (.Call (.Attribute o m apos) [] kws pos) (vRecK isLn n ks.length S pick vo vk) := by
  obtain ⟨f, fd, ps, g, gV, c, hm, hp, F, hb, pk⟩ := h.ex
  obtain ⟨to, po, so⟩ := ho.ex
  obtain ⟨tk, pkk, sk⟩ := hkw.ex
  refine ⟨_, hpe po c hm F (hr.mono hkj) hb pkk, fun γ M R σ H Q r h kk => so γ M _ σ H _ r h fun d M1 x H1 o1 i1 e1 h1 => ?_⟩
  obtain ⟨hd, h1⟩ := h1
  obtain ⟨a, dx, q, ex, hx⟩ := ln_at i1 hd
  refine ⟨a, dx, _, ex, hx, lk_parts hp, sk γ M1 _ σ H1 _ (r.mk' e1 o1) h1 fun zs M2 us H2 o2 i2 e2 h2 => ⟨by rw [← i2.len]; exact h2.1, ?_⟩⟩
  exact ⟨pick [d] zs, M2, R, h2.2.1, pk M2 H2 [d] zs [x] us (IsL.cons (Is.ext e2 d x i1) IsL.nil) i2, o2, h2.2.2, fun d' M3 y H3 o3 i3 e3 h3 => kk d' M3 y H3 o3 i3 ((e1.trans e2).trans e3) h3⟩
/-! a line, called -/
structure COkK (P : Program) (w : World) (K : PySem.W.Frag) (mg : Str → Option Value) (base : Heap) (C : Addr) (k n : Nat) (S : DSp) (ks : List Str) (pick : List D → List D → List D) : Prop where
  ex : ∃ (f : Addr) (fd : FuncData) (ps : List Str) (g : List Value → List Value → List Value) (gV : List V → List V → List V), StX.CallO K C f ∧ FnOk P w K mg base CX0 k f fd ps (spD ⟨K, C⟩ n S) ∧ KBn K fd ps 1 ks g gV ∧ PickOk K C pick gV
def tCallOK (X : Cx) (C : Addr) (nk : Nat) (sp : Sp) (gV : List V → List V → List V) (tf : TE) (tk : TA) : TE := fun σ H Q => tf σ H fun y H1 => ∃ a, y = V.ref a ∧ tk σ H1 fun zs H2 => StX.InsC X H2 a C ∧ zs.length = nk ∧ sp (gV [y] zs) H2 Q E0
theorem callO_ofK {M : Model} {A : Around} {E : Value → Shared → Prop} {s : Shared} {a : Addr} {Q : Value → Shared → Prop} {args : List (Bool × Sem Value)} {kwl : List (Option Str × Sem Value)} (hplain : (args.any (·.1) || kwl.any (·.1.isNone)) = false)
    (h : wpAny M A (evalArgs (.ref a) true args kwl) (fun z s₁ => (∃ C ox od, PySem.W.InstAt s₁.heap a ox C od ∧ ox.data = .plain) ∧ wpAny M A (call (.ref a) ([] ++ z.pos) z.kw) Q E s₁) E s) : wpAny M A (callWith pos (.ref a) [] args kwl) Q E s := by
  unfold callWith
  refine wpAny_bind (wpAny_holding (wpAny_mono h (fun z s₁ h₁ => wpAny_bind (wpAny_standAt ?_)) fun _ _ y => y))
  obtain ⟨⟨C, ox, od, J, hd⟩, h₁⟩ := h₁
  have L := PySem.W.kco_keeper (M := M) J hd
  simp only [hplain]
  refine wpAny_bind (L.here ?_)
  have tail : ∀ {t : Sem Value}, wpAny M A t Q E s₁ → wpAny M A (t >>= fun r => holding [r] point >>= fun _ => pure r) Q E s₁ :=
    fun ht => wpAny_bind (wpAny_mono ht (fun r s₂ hr => wpAny_bind (wpAny_holding (wpAny_point (wpAny_pure hr)))) fun _ _ y => y)
  exact tail (wpAny_operateT h₁)
theorem pe_callOK (hf : PE X fe to) (c : StX.CallO X.K C f) (F : FnOk X.prog X.w X.K X.mg X.base CX0 k f fd ps sp) (hr : Room k X.A) (hb : KBn X.K fd ps 1 ks gg gV) (hkw : PK X kws tk)
    (hall : (backToKw pos (keywordEach kws X.env)).all (·.1.isSome) = true := by rfl) (hks : (backToKw pos (keywordEach kws X.env)).filterMap (·.1) = ks := by rfl)
    (hpl : ((backTo pos (starEach [] X.env)).any (·.1) || (backToKw pos (keywordEach kws X.env)).any (·.1.isNone)) = false := by rfl)
    (ht : eval (.Call fe [] kws pos) X.env = (do callWith pos (← eval fe X.env) [] (backTo pos (starEach [] X.env)) (backToKw pos (keywordEach kws X.env))) := by rfl) :
    PE X (.Call fe [] kws pos) (tCallOK X C ks.length sp gV to tk) := by
  refine ⟨fun pins s σ H Q I h => ?_⟩
  rw [ht]
  refine wpAny_bind (thn (hf.run pins s σ H _ I h) fun u s1 ⟨y, H1, I1, ry, a, ey, q⟩ => ?_)
  subst ey
  obtain rfl : u = Value.ref a := ry
  refine callO_ofK hpl (PyProof.Rows.evalArgs_kw2_nil hall (thn (hkw.run pos pins s1 σ H1 _ I1 q) fun ws s2 ⟨zs, H2, I2, rz, hi, l2, q2⟩ => ?_))
  obtain ⟨ox, od, J, hd⟩ := StX.insC_at I2 hi
  rw [hks]
  exact ⟨⟨C, ox, od, J, hd⟩, wpAny_call (PySem.W.kco_code I2.kIn J hd c.at_ c.fn c.fi (code_selfK F hr hb rz l2 I2 q2))⟩
theorem q_callOK (h : COkK X.prog X.w X.K X.mg X.base C k n S ks pick) (hr : Room j X.A) (hkj : k ≤ j) (ho : QE X C fe vo) (hkw : QK X C kws vk)
    (hall : (backToKw pos (keywordEach kws X.env)).all (·.1.isSome) = true := by rfl) (hks : (backToKw pos (keywordEach kws X.env)).filterMap (·.1) = ks := by rfl)
    (hpl : ((backTo pos (starEach [] X.env)).any (·.1) || (backToKw pos (keywordEach kws X.env)).any (·.1.isNone)) = false := by rfl)
    (ht : eval (.Call fe [] kws pos) X.env = (do callWith pos (← eval fe X.env) [] (backTo pos (starEach [] X.env)) (backToKw pos (keywordEach kws X.env))) := by rfl) :
    QE X C (.Call fe [] kws pos) (vRecK isLn n ks.length S pick vo vk) := by
  obtain ⟨f, fd, ps, g, gV, c, F, hb, pk⟩ := h.ex
  obtain ⟨to, po, so⟩ := ho.ex
  obtain ⟨tk, pkk, sk⟩ := hkw.ex
  refine ⟨_, pe_callOK po c F (hr.mono hkj) hb pkk hall hks hpl ht, fun γ M R σ H Q r h kk => so γ M _ σ H _ r h fun d M1 x H1 o1 i1 e1 h1 => ?_⟩
  obtain ⟨hd, h1⟩ := h1
  obtain ⟨a, dx, q, ex, hx⟩ := ln_at i1 hd
  refine ⟨a, ex, sk γ M1 _ σ H1 _ (r.mk' e1 o1) h1 fun zs M2 us H2 o2 i2 e2 h2 => ⟨?_, by rw [← i2.len]; exact h2.1, ?_⟩⟩
  · obtain ⟨a', dx', q', ex', hx'⟩ := ln_at (Is.ext e2 d x i1) hd
    have : a' = a := by rw [ex] at ex'; cases ex'; rfl
    subst this
    exact .inr ⟨dx', _, hx'⟩
  · exact ⟨pick [d] zs, M2, R, h2.2.1, pk M2 H2 [d] zs [x] us (IsL.cons (Is.ext e2 d x i1) IsL.nil) i2, o2, h2.2.2, fun d' M3 y H3 o3 i3 e3 h3 => kk d' M3 y H3 o3 i3 ((e1.trans e2).trans e3) h3⟩
/-! class methods -/
structure CMKOk (P : Program) (w : World) (K : PySem.W.Frag) (mg : Str → Option Value) (base : Heap) (C : Addr) (k : Nat) (m : Str) (n : Nat) (S : DSp) (ks : List Str) (pick : List D → List D → List D) : Prop where
  ex : ∃ (mc : Value) (p f : Addr) (fd : FuncData) (ps : List Str) (g : List Value → List Value → List Value) (gV : List V → List V → List V), ClX.CRead K C mc ∧ ClX.CMet K C mc m p f ∧ FnOk P w K mg base CX0 k f fd ps (spD ⟨K, C⟩ n S) ∧ KBn K fd ps 1 ks g gV ∧ PickOk K C pick gV
def tCMethK (C : Addr) (nk : Nat) (sp : Sp) (gV : List V → List V → List V) (ta : TE) (tk : TA) : TE := fun σ H Q => ta σ H fun x H1 => x = .ref C ∧ tk σ H1 fun zs H2 => zs.length = nk ∧ sp (gV [V.ref C] zs) H2 Q E0
theorem pe_cmethK {pl : Sem Bool} {mc : Value} {p : Addr} (he : PE X o to) (r : ClX.CRead X.K C mc) (c : ClX.CMet X.K C mc m p f) (F : FnOk X.prog X.w X.K X.mg X.base CX0 k f fd ps sp) (hr : Room k X.A) (hb : KBn X.K fd ps 1 ks gg gV) (hkw : PK X kws tk)
    (hall : (backToKw pos (keywordEach kws X.env)).all (·.1.isSome) = true := by rfl) (hks : (backToKw pos (keywordEach kws X.env)).filterMap (·.1) = ks := by rfl)
    (hpl : ((backTo pos (starEach [] X.env)).any (·.1) || (backToKw pos (keywordEach kws X.env)).any (·.1.isNone)) = false := by rfl)
    (ht : eval (.Call (.Attribute o m apos) [] kws pos) X.env = (do
      let ov ← eval o X.env
      standAt apos.atName
      let (f, first) ← holding [ov] (getMethod ov m pl)
      callWith pos f first (backTo pos (starEach [] X.env)) (backToKw pos (keywordEach kws X.env))) := by rfl) :
    PE X (.Call (.Attribute o m apos) [] kws pos) (tCMethK C ks.length sp gV to tk) := by
  refine ⟨fun pins s σ H Q I h => ?_⟩
  refine PySem.W.methodCall_KW (pl := pl) (thn (he.run pins s σ H _ I h) fun u s1 ⟨x, H1, I1, rx, ex, q⟩ => ?_) ht
  subst ex
  obtain rfl : u = Value.ref C := rx
  refine ClX.getmethcm_ok I1 r c fun s2 I2 => ?_
  refine PySem.W.callWith_of (first := []) hpl (PySem.W.keeps_M (K := X.K) c.fi) (PyProof.Rows.evalArgs_kw2_nil hall (thn (hkw.run pos _ s2 σ H1 _ I2 q) fun ws s3 ⟨zs, H2, I3, rz, l2, q2⟩ => ⟨⟨ClX.pin_at I3, I3.kIn⟩, ?_⟩))
  rw [hks]
  exact thn (wpAny_call (PySem.W.method_call (ClX.pin_at I3) (code_selfK F hr hb rz l2 I3 q2))) fun _ _ y => ClX.unpinE y
theorem q_cmethK (h : CMKOk X.prog X.w X.K X.mg X.base C k m n S ks pick) (hr : Room j X.A) (hkj : k ≤ j) (ho : QE X C o vo) (hkw : QK X C kws vk)
    (hpe : ∀ {mc : Value} {p f : Addr} {fd : FuncData} {ps : List Str} {sp : Sp} {to : TE} {tk : TA} {gg : List Value → List Value → List Value} {gV : List V → List V → List V}, PE X o to → ClX.CRead X.K C mc → ClX.CMet X.K C mc m p f → FnOk X.prog X.w X.K X.mg X.base CX0 k f fd ps sp → Room k X.A → KBn X.K fd ps 1 ks gg gV → PK X kws tk → PE X (.Call (.Attribute o m apos) [] kws pos) (tCMethK C ks.length sp gV to tk) := by exact fun h1 h2 h3 h4 h5 h6 h7 => pe_cmethK h1 h2 h3 h4 h5 h6 h7) :
    QE X C (.Call (.Attribute o m apos) [] kws pos) (vRecK isCls n ks.length S pick vo vk) := by
  obtain ⟨mc, p, f, fd, ps, g, gV, cr, cm, F, hb, pk⟩ := h.ex
  obtain ⟨to, po, so⟩ := ho.ex
  obtain ⟨tk, pkk, sk⟩ := hkw.ex
  refine ⟨_, hpe po cr cm F (hr.mono hkj) hb pkk, fun γ M R σ H Q r h kk => so γ M _ σ H _ r h fun d M1 x H1 o1 i1 e1 h1 => ?_⟩
  obtain ⟨hd, h1⟩ := h1
  cases d with
  | cls =>
    have i1' := i1
    unfold Is at i1
    refine ⟨i1, sk γ M1 _ σ H1 _ (r.mk' e1 o1) h1 fun zs M2 us H2 o2 i2 e2 h2 => ⟨by rw [← i2.len]; exact h2.1, ?_⟩⟩
    rw [← i1]
    exact ⟨pick [.cls] zs, M2, R, h2.2.1, pk M2 H2 [.cls] zs [x] us (IsL.cons (Is.ext e2 .cls x i1') IsL.nil) i2, o2, h2.2.2, fun d' M3 y H3 o3 i3 e3 h3 => kk d' M3 y H3 o3 i3 ((e1.trans e2).trans e3) h3⟩
  | _ => cases hd
/-! Line(k = v, ..) -/
structure LMkK (P : Program) (w : World) (K : PySem.W.Frag) (mg : Str → Option Value) (base : Heap) (C : Addr) (k : Nat) (ks : List Str) (iy : List Nat) : Prop where
  ex : ∃ (f : Addr) (fd : FuncData) (ps : List Str) (g : List Value → List Value → List Value) (gV : List V → List V → List V), mg "Line" = some (.ref C) ∧ Mk K C f ∧ FnOk P w K mg base CX0 k f fd ps (spLn C) ∧ KBn K fd ps 1 ks g gV ∧ ∀ x a b c : V, gV [x] [a, b, c] = x :: pickL iy [a, b, c] []
def vLineK (iy : List Nat) (nk : Nat) (kw : DA) : DE := fun γ M R => kw γ M fun zs M1 => zs.length = 3 ∧ nk = 3 ∧ match pickL iy zs [] with
  | [.int t, .int p, .int o] => 1 ≤ o ∧ R (.ln t p o) M1
  | _ => False
theorem e_vLineK (iy : List Nat) (nk : Nat) (kw : DA) (γ : Gm) (M : Mem) (R : DR) : vLineK iy nk kw γ M R = (kw γ M fun zs M1 => zs.length = 3 ∧ nk = 3 ∧ match pickL iy zs [] with
  | [.int t, .int p, .int o] => 1 ≤ o ∧ R (.ln t p o) M1
  | _ => False) := propext Iff.rfl
theorem q_lineK {iy : List Nat} (h : LMkK X.prog X.w X.K X.mg X.base C k ks iy) (hr : Room j X.A) (hkj : k + 1 ≤ j) (hkw : QK X C kws vk) (hg : Gl X "Line" := by rfl)
    (hall : (backToKw pos (keywordEach kws X.env)).all (·.1.isSome) = true := by rfl) (hks : (backToKw pos (keywordEach kws X.env)).filterMap (·.1) = ks := by rfl)
    (hpl : ((backTo pos (starEach [] X.env)).any (·.1) || (backToKw pos (keywordEach kws X.env)).any (·.1.isNone)) = false := by rfl) :
    QE X C (.Call (.Name "Line" p) [] kws pos) (vLineK iy ks.length vk) := by
  obtain ⟨f, fd, ps, g, gV, hm, mk, F, hb, hgv⟩ := h.ex
  obtain ⟨tk, pkk, sk⟩ := hkw.ex
  refine ⟨_, pe_makeK0 (E := E0) mk F (hr.mono hkj) hg hm hb pass0 pkk hall hks (by decide) hpl, fun γ M R σ H Q r h kk => sk γ M _ σ H _ r h fun zs M1 us H1 o1 i1 e1 h1 => ?_⟩
  obtain ⟨l3, n3, h1⟩ := h1
  have lu : us.length = 3 := by rw [← i1.len]; exact l3
  refine ⟨rfl, by rw [lu, n3], ?_⟩
  match us, lu with
  | [a, b, c], _ =>
    have ip : IsL ⟨X.K, C⟩ M1 H1 (pickL iy zs []) (pickL iy [a, b, c] []) := pick_isL i1 IsL.nil iy
    simp only [hgv]
    generalize pickL iy zs [] = ds at h1 ip
    generalize pickL iy [a, b, c] [] = xs at ip ⊢
    match ds, h1, ip with
    | [.int t, .int p, .int o], h1, ip =>
      obtain ⟨v1, v2, v3, ev, j1, j2, j3⟩ := isL3 ip
      unfold Is at j1 j2 j3
      subst ev
      subst j1
      subst j2
      subst j3
      exact snd_line o1 e1 h1.1 h1.2 kk
end
/-! ### at the head -/
section
variable {P : Program} {w : World} {K : PySem.W.Frag} {mg : Str → Option Value} {base : Heap} {x qual : Str} {params : Arguments} {body : List Stmt} {scope : Scope} {kws : List (Str × V)} {f : Addr} {fd : FuncData} {ps : List Str}
theorem kb_of (ks : List Str) (ix : List Nat) (F : FunD K x qual params body scope [] kws f fd)
    (h : ∀ (kV doc pm : Value) (an : Option Addr) (cdv ct : Value) (us ws : List Value), us.length = 1 → ws.length = ks.length → bindArgs (PySem.W.fnOf x qual params body scope .none kV doc pm an cdv ct) ⟨us, ks.zip ws⟩ = pure (ps.zip (pickL ix us ws))) : KBn K fd ps 1 ks (pickL ix) (pickL ix) := by
  obtain ⟨oc, od, dV, kV, doc, pm, an, cdv, ct, osl, e, lk, hcd, hD, hK⟩ := F.ex
  rcases hD with ⟨_, e2⟩ | ⟨z, _⟩
  · subst e; subst e2
    exact ⟨fun s us ws _ l1 l2 => .of_eq (h kV doc pm an cdv ct us ws l1 l2), fun r s => pick_vals r s ix⟩
  · exact absurd rfl z
theorem pk_of {C : Addr} (ix : List Nat) : PickOk K C (pickL ix) (pickL ix) := fun M H ds zs vs us r s => pick_isL r s ix
end
section
variable {α : Type} {a b c d : α}
theorem pkm1 : pickL [0, 1] [a] [b] = [a, b] := id rfl
theorem pkm2 : pickL [0, 2, 3, 1] [a] [b, c, d] = [a, c, d, b] := id rfl
theorem pkm3 : pickL [0, 3, 1, 2] [a] [b, c, d] = [a, d, b, c] := id rfl
theorem pkm4 : pickL [0, 3, 2, 1] [a] [b, c, d] = [a, d, c, b] := id rfl
theorem pkm5 : pickL [0, 1, 3, 2] [a] [b, c, d] = [a, b, d, c] := id rfl
theorem pkm6 : pickL [1, 2, 0] [a, b, c] [] = [b, c, a] := id rfl
end
end Dl
namespace Dl
open PySem L2
/-! ### dicts: read, copied, put into, made by a comprehension -/
def keyD : D → Option Key
  | .int i => some (.inl i)
  | .str x => some (.inr x)
  | _ => none
def datK : Key → D
  | .inl i => .int i
  | .inr x => .str x
theorem keyD_ok {G : Gx} {M : Mem} {H : Hp} {d : D} {v : V} {k : Key} (h : Is G M H d v) (e : keyD d = some k) : v = kV k := by
  cases d with
  | int i => cases e; unfold Is at h; rw [h]; rfl
  | str x => cases e; unfold Is at h; rw [h]; rfl
  | _ => cases e
def dVal {α : Type} (ks : List Key) (ds : List α) (k : Key) : Option α := ((ks.zip ds).find? fun p => decide (p.1 = k)).map (·.2)
theorem dVal_cons {α : Type} {x : Key} {ks : List Key} {d : α} {ds : List α} {k : Key} : dVal (x :: ks) (d :: ds) k = if x = k then some d else dVal ks ds k := by
  unfold dVal
  rw [List.zip_cons_cons, List.find?_cons]
  by_cases h : x = k
  · simp [h]
  · simp [h]
theorem dVal_is {G : Gx} {M : Mem} {H : Hp} : ∀ {ks : List Key} {ds : List D} {xs : List V} {k : Key}, IsL G M H ds xs → (∀ d, dVal ks ds k = some d → ∃ v, valV (ks.zip xs) k = some v ∧ Is G M H d v) ∧ (dVal ks ds k = none → valV (ks.zip xs) k = none)
  | [], ds, xs, k, _ => ⟨fun d e => by simp [dVal] at e, fun _ => by simp [valV]⟩
  | _ :: _, [], [], k, _ => ⟨fun d e => by simp [dVal] at e, fun _ => by simp [valV]⟩
  | _ :: _, [], _ :: _, _, h => by unfold IsL at h; exact h.elim
  | _ :: _, _ :: _, [], _, h => by unfold IsL at h; exact h.elim
  | x :: ks, d :: ds, v :: xs, k, h => by
    unfold IsL at h
    obtain ⟨i1, i2⟩ := dVal_is (ks := ks) (k := k) h.2
    have ev : valV ((x :: ks).zip (v :: xs)) k = if x = k then some v else valV (ks.zip xs) k := dVal_cons
    rw [dVal_cons, ev]
    by_cases q : x = k
    · rw [if_pos q, if_pos q]
      exact ⟨fun d' e => by cases e; exact ⟨v, rfl, h.1⟩, fun e => by cases e⟩
    · rw [if_neg q, if_neg q]
      exact ⟨i1, i2⟩
def repL {α : Type} : List Key → List α → Key → α → List α
  | x :: ks, y :: ds, k, d => (if x = k then d else y) :: repL ks ds k d
  | _, _, _, _ => []
def hasK (ks : List Key) (k : Key) : Bool := ks.any fun x => decide (x = k)
theorem hasK_iff {ks : List Key} {k : Key} : hasK ks k = true ↔ k ∈ ks := by
  unfold hasK
  rw [List.any_eq_true]
  exact ⟨fun ⟨x, h, e⟩ => (of_decide_eq_true e) ▸ h, fun h => ⟨k, h, decide_eq_true rfl⟩⟩
def putKs (ks : List Key) (k : Key) : List Key := if hasK ks k = true then ks else ks ++ [k]
def putDs {α : Type} (ks : List Key) (ds : List α) (k : Key) (d : α) : List α := if hasK ks k = true then repL ks ds k d else ds ++ [d]
theorem repL_len {α : Type} : ∀ {ks : List Key} {ds : List α} {k : Key} {d : α}, ks.length = ds.length → (repL ks ds k d).length = ds.length
  | [], [], _, _, _ => rfl
  | [], _ :: _, _, _, h => by simp at h
  | _ :: _, [], _, _, h => by simp at h
  | _ :: ks, _ :: ds, k, d, h => by
    show (repL ks ds k d).length + 1 = ds.length + 1
    rw [repL_len (by simpa using h)]
theorem putDs_len {α : Type} {ks : List Key} {ds : List α} {k : Key} {d : α} (h : ks.length = ds.length) : (putKs ks k).length = (putDs ks ds k d).length := by
  unfold putKs putDs
  split
  · rw [repL_len h, h]
  · simp [h]
theorem zip_repL : ∀ {ks : List Key} {xs : List V} {k : Key} {v : V}, ks.length = xs.length → (ks.zip xs).map (fun kv => if kv.1 = k then (kv.1, v) else kv) = ks.zip (repL ks xs k v)
  | [], _, _, _, _ => rfl
  | _ :: _, [], _, _, h => by simp at h
  | x :: ks, y :: xs, k, v, h => by
    show (if x = k then (x, v) else (x, y)) :: (ks.zip xs).map (fun kv => if kv.1 = k then (kv.1, v) else kv) = (x, if x = k then v else y) :: ks.zip (repL ks xs k v)
    rw [zip_repL (by simpa using h)]
    congr 1
    split <;> rfl
theorem putK_zip {ks : List Key} {xs : List V} {k : Key} {v : V} (h : ks.length = xs.length) : L2.putK (ks.zip xs) k v = (putKs ks k).zip (putDs ks xs k v) := by
  have e : ((ks.zip xs).any fun kv => decide (kv.1 = k)) = hasK ks k := by
    have fst : (ks.zip xs).map (·.1) = ks := List.map_fst_zip (by omega)
    have := List.any_map (l := ks.zip xs) (f := (·.1)) (p := fun x => decide (x = k))
    rw [fst] at this
    exact this.symm
  unfold L2.putK putKs putDs
  rw [e]
  by_cases q : hasK ks k = true
  · rw [if_pos q, if_pos q, if_pos q, zip_repL h]
  · rw [if_neg q, if_neg q, if_neg q, List.zip_append h]
    rfl
theorem isL_repL {G : Gx} {M : Mem} {H : Hp} {k : Key} {d : D} {v : V} (hd : Is G M H d v) : ∀ {ks : List Key} {ds : List D} {xs : List V}, ks.length = ds.length → IsL G M H ds xs → IsL G M H (repL ks ds k d) (repL ks xs k v)
  | [], [], [], _, _ => IsL.nil
  | [], _ :: _, _, h, _ => by simp at h
  | _ :: _, [], _, h, _ => by simp at h
  | _, [], _ :: _, _, h => by unfold IsL at h; exact h.elim
  | _, _ :: _, [], _, h => by unfold IsL at h; exact h.elim
  | x :: ks, y :: ds, w :: xs, hl, h => by
    unfold IsL at h
    refine IsL.cons ?_ (isL_repL hd (by simpa using hl) h.2)
    split
    · exact hd
    · exact h.1
theorem isL_putDs {G : Gx} {M : Mem} {H : Hp} {k : Key} {d : D} {v : V} {ks : List Key} {ds : List D} {xs : List V} (hd : Is G M H d v) (hl : ks.length = ds.length) (h : IsL G M H ds xs) : IsL G M H (putDs ks ds k d) (putDs ks xs k v) := by
  unfold putDs
  split
  · exact isL_repL hd hl h
  · exact h.append (IsL.cons hd IsL.nil)
theorem pureL_repL {k : Key} {d : D} (hd : pureD d = true) : ∀ {ks : List Key} {ds : List D}, pureL ds = true → pureL (repL ks ds k d) = true
  | [], _, _ => by unfold repL pureL; rfl
  | _ :: _, [], _ => by unfold repL pureL; rfl
  | x :: ks, y :: ds, h => by
    unfold pureL at h
    rw [Bool.and_eq_true] at h
    show pureL ((if x = k then d else y) :: repL ks ds k d) = true
    unfold pureL
    rw [pureL_repL hd h.2, Bool.and_true]
    split
    · exact hd
    · exact h.1
theorem pureL_putDs {k : Key} {d : D} {ks : List Key} {ds : List D} (hd : pureD d = true) (h : pureL ds = true) : pureL (putDs ks ds k d) = true := by
  unfold putDs
  split
  · exact pureL_repL hd h
  · exact pureL_append h (by simp [pureL, hd])
def dctI (M : Mem) : D → Option (List Key × List D)
  | .dct ks ds => some (ks, ds)
  | .own a => (match M a with
    | some (.dct ks ds) => some (ks, ds)
    | some (.lck _ _ ks ds) => some (ks, ds)
    | _ => none)
  | _ => none
theorem dctI_dct {M : Mem} {ks : List Key} {ds : List D} : dctI M (.dct ks ds) = some (ks, ds) := id rfl
theorem dctI_own {M : Mem} {a : Addr} {ks : List Key} {ds : List D} (h : M a = some (.dct ks ds)) : dctI M (.own a) = some (ks, ds) := by
  show (match M a with
    | some (.dct ks ds) => some (ks, ds)
    | some (.lck _ _ ks ds) => some (ks, ds)
    | _ => none) = _
  rw [h]
theorem dctI_lck {M : Mem} {a : Addr} {o : Obj} {xs : List V} {ks : List Key} {ds : List D} (h : M a = some (.lck o xs ks ds)) : dctI M (.own a) = some (ks, ds) := by
  show (match M a with
    | some (.dct ks ds) => some (ks, ds)
    | some (.lck _ _ ks ds) => some (ks, ds)
    | _ => none) = _
  rw [h]
theorem dctI_same {M : Mem} {a : Addr} {ks : List Key} {ds : List D} : dctI (mset M a (.dct ks ds)) (.own a) = some (ks, ds) := dctI_own mset_same
theorem dct_at {G : Gx} {M : Mem} {H : Hp} {d : D} {v : V} {ks : List Key} {ds : List D} (o : Own G M H) (h : Is G M H d v) (e : dctI M d = some (ks, ds)) : ∃ a xs, v = .ref a ∧ Rd H a (.dK (ks.zip xs)) ∧ ks.length = ds.length ∧ IsL G M H ds xs := by
  cases d with
  | dct k2 d2 =>
    cases e
    unfold Is at h
    obtain ⟨a, xs, e1, m, ha, hl, il⟩ := h
    exact ⟨a, xs, e1, .inl ha, hl, il⟩
  | own a =>
    unfold Is at h
    unfold dctI at e
    simp only at e
    split at e
    · rename_i k2 d2 q
      cases e
      obtain ⟨_, hl, xs, ha, il⟩ := o a _ q
      exact ⟨a, xs, h.1, .inl ha, hl, il⟩
    · rename_i o2 x2 k2 d2 q
      cases e
      obtain ⟨_, hl, ha, il⟩ := o a _ q
      exact ⟨a, x2, h.1, .inr ⟨o2, ha⟩, hl, il⟩
    · cases e
  | _ => cases e
section
variable {X : Cx} {C : Addr} {j : Nat} {o i e : Expr} {vo vi ve : DE} {pos apos p : Pos}
/-- len -/
def oLenD : DC := fun ds M R => match ds with
  | [d] => (match dctI M d with
    | some (ks, _) => R (.int ks.length) M
    | none => False)
  | _ => False
theorem f_lenD {d : D} {M : Mem} {R : DR} {ks : List Key} {ds : List D} (h : dctI M d = some (ks, ds)) : oLenD [d] M R = R (.int ks.length) M := by unfold oLenD; simp only [h]
theorem call_lenR : CallR X (.builtin "len") (fun xs H Q => ∃ a kvs, xs = [V.ref a] ∧ Rd H a (.dK kvs) ∧ Q (.int kvs.length) H) := by
  intro pins s σ H xs us Q I r h
  obtain ⟨a, kvs, rfl, ha, q⟩ := h
  obtain ⟨u, rfl, ru⟩ := vals1 r
  cases ru
  exact d_len I ha fun t s' I' => ⟨.int kvs.length, H, I', ⟨t, rfl⟩, q⟩
theorem b_lenD : BQ X C (.builtin "len") oLenD := ⟨_, call_lenR, fun ds M R H xs Q ow i1 h k => by
  match ds, h with
  | [d], h =>
    obtain ⟨v, e, q⟩ := isL1 i1
    unfold oLenD at h
    simp only at h
    split at h
    · rename_i ks es hd
      obtain ⟨a, us, rfl, ha, hl, il⟩ := dct_at ow q hd
      refine ⟨a, ks.zip us, e, ha, ?_⟩
      rw [List.length_zip, ← il.len, ← hl, Nat.min_self]
      exact k _ M _ H ow is_int Ext.refl h
    · exact h.elim⟩
/-- k in d -/
def oInDct (f : Bool → Bool) : DO := fun d e M R => match keyD d, dctI M e with
  | some k, some (ks, ds) => R (.bl (f (dVal ks ds k).isSome)) M
  | _, _ => False
theorem f_inDct {f : Bool → Bool} {d e : D} {M : Mem} {R : DR} {k : Key} {ks : List Key} {ds : List D} (h1 : keyD d = some k) (h2 : dctI M e = some (ks, ds)) : oInDct f d e M R = R (.bl (f (dVal ks ds k).isSome)) M := by
  unfold oInDct; simp only [h1, h2]
def rInDct (f : Bool → Bool) : R2 := fun x y H Q => ∃ a r, y = .ref a ∧ DGet H a x r ∧ Q (.bl (f r.isSome)) H
theorem op_inDct (hu : X.A.units + 1 < cLine) : OpR X (compareOp .In) (rInDct id) := by
  intro pins s σ H x y v u Q I rx ry h
  obtain ⟨a, r, rfl, g, q⟩ := h
  obtain rfl : u = Value.ref a := ry
  exact d_in hu I g rx fun s3 I3 => ⟨.bl r.isSome, H, I3, rfl, q⟩
theorem op_notInDct (hu : X.A.units + 1 < cLine) : OpR X (compareOp .NotIn) (rInDct Bool.not) := by
  intro pins s σ H x y v u Q I rx ry h
  obtain ⟨a, r, rfl, g, q⟩ := h
  obtain rfl : u = Value.ref a := ry
  exact d_notIn hu I g rx fun s3 I3 => ⟨.bl (!r.isSome), H, I3, rfl, q⟩
theorem dVal_get {G : Gx} {M : Mem} {H : Hp} {a : Addr} {ks : List Key} {ds : List D} {xs : List V} {k : Key} (ha : Rd H a (.dK (ks.zip xs))) (il : IsL G M H ds xs) : ∃ r, DGet H a (kV k) r ∧ r.isSome = (dVal ks ds k).isSome ∧ (∀ d, dVal ks ds k = some d → ∃ v, r = some v ∧ Is G M H d v) ∧ (dVal ks ds k = none → r = none) := by
  obtain ⟨h1, h2⟩ := dVal_is (ks := ks) (k := k) il
  refine ⟨_, .inl ⟨_, k, ha, rfl, rfl⟩, ?_, h1, h2⟩
  cases q : dVal ks ds k with
  | none => rw [h2 q]; rfl
  | some d => obtain ⟨v, e, _⟩ := h1 d q; rw [e]; rfl
theorem sndO_inDct {G : Gx} {f : Bool → Bool} : SndO G (rInDct f) (oInDct f) := fun d e M R H x y Q ow i1 i2 h k => by
  unfold oInDct at h
  split at h
  · rename_i key ks ds q1 q2
    have ex := keyD_ok i1 q1
    obtain ⟨a, xs, ey, ha, hl, il⟩ := dct_at ow i2 q2
    obtain ⟨r, g, es, _, _⟩ := dVal_get (k := key) ha il
    refine ⟨a, r, ey, by rw [ex]; exact g, ?_⟩
    rw [es]
    exact k _ M _ H ow is_bl Ext.refl h
  · exact h.elim
theorem c_inDct {k : Nat} (hr : Room k X.A) : CmpQ X C .In (oInDct id) := ⟨_, op_inDct (by have := hr.units; omega), sndO_inDct⟩
theorem c_notInDct {k : Nat} (hr : Room k X.A) : CmpQ X C .NotIn (oInDct Bool.not) := ⟨_, op_notInDct (by have := hr.units; omega), sndO_inDct⟩
/-- d[k] -/
def vDGet (o i : DE) : DE := fun γ M R => o γ M fun d M1 => i γ M1 fun k M2 => match dctI M2 d, keyD k with
  | some (ks, ds), some x => (match dVal ks ds x with
    | some e => R e M2
    | none => False)
  | _, _ => False
theorem e_vDGet (o i : DE) (γ : Gm) (M : Mem) (R : DR) : vDGet o i γ M R = (o γ M fun d M1 => i γ M1 fun k M2 => match dctI M2 d, keyD k with
  | some (ks, ds), some x => (match dVal ks ds x with
    | some e => R e M2
    | none => False)
  | _, _ => False) := propext Iff.rfl
theorem q_dget (hr : Room j X.A) (ho : QE X C o vo) (hi : QE X C i vi) (hs : NoSl i := by intro _ _; rfl) : QE X C (.Subscript o i pos) (vDGet vo vi) := by
  obtain ⟨to, po, so⟩ := ho.ex
  obtain ⟨ti, pi, si⟩ := hi.ex
  refine ⟨_, pe_dget (by have := hr.units; omega) po pi hs, fun γ M R σ H Q r h kk => so γ M _ σ H _ r h fun d M1 x H1 o1 i1 e1 h1 => si γ M1 _ σ H1 _ (r.mk' e1 o1) h1 fun k M2 y H2 o2 i2 e2 h2 => ?_⟩
  split at h2
  · rename_i ks ds key q1 q2
    split at h2
    · rename_i z qz
      have ey := keyD_ok i2 q2
      obtain ⟨a, xs, ex, ha, hl, il⟩ := dct_at o2 (Is.ext e2 d x i1) q1
      obtain ⟨r', g, _, h3, _⟩ := dVal_get (k := key) ha il
      obtain ⟨v, rfl, iv⟩ := h3 z qz
      exact ⟨a, v, ex, by rw [ey]; exact g, kk z M2 v H2 o2 iv (e1.trans e2) h2⟩
    · exact h2.elim
  · exact h2.elim
/-- d.get(k) -/
def vDGet1 (o i : DE) : DE := fun γ M R => o γ M fun d M1 => (dctI M1 d).isSome = true ∧ i γ M1 fun k M2 => match dctI M2 d, keyD k with
  | some (ks, ds), some x => R ((dVal ks ds x).getD .non) M2
  | _, _ => False
theorem e_vDGet1 (o i : DE) (γ : Gm) (M : Mem) (R : DR) : vDGet1 o i γ M R = (o γ M fun d M1 => (dctI M1 d).isSome = true ∧ i γ M1 fun k M2 => match dctI M2 d, keyD k with
  | some (ks, ds), some x => R ((dVal ks ds x).getD .non) M2
  | _, _ => False) := propext Iff.rfl
theorem q_dget1 (hr : Room j X.A) (ho : QE X C o vo) (hi : QE X C i vi) (m : M1 X o "get" apos i pos := by exact ⟨rfl, rfl, rfl, rfl⟩) : QE X C (.Call (.Attribute o "get" apos) [i] [] pos) (vDGet1 vo vi) := by
  obtain ⟨to, po, so⟩ := ho.ex
  obtain ⟨ti, pi, si⟩ := hi.ex
  refine ⟨_, pe_dget1 (by have := hr.units; omega) po pi m, fun γ M R σ H Q r h kk => so γ M _ σ H _ r h fun d M1 x H1 o1 i1 e1 h1 => ?_⟩
  obtain ⟨hd, h1⟩ := h1
  obtain ⟨⟨ks1, ds1⟩, hd⟩ := Option.isSome_iff_exists.mp hd
  obtain ⟨a1, xs1, ex1, ha1, _, _⟩ := dct_at o1 i1 hd
  refine ⟨a1, ex1, .inl ⟨_, ha1⟩, si γ M1 _ σ H1 _ (r.mk' e1 o1) h1 fun k M2 y H2 o2 i2 e2 h2 => ?_⟩
  split at h2
  · rename_i ks ds key q1 q2
    have ey := keyD_ok i2 q2
    obtain ⟨a, xs, ex, ha, hl, il⟩ := dct_at o2 (Is.ext e2 d x i1) q1
    have ea : a = a1 := by rw [ex1] at ex; cases ex; rfl
    subst ea
    obtain ⟨r', g, _, h3, h4⟩ := dVal_get (k := key) ha il
    refine ⟨r', by rw [ey]; exact g, ?_⟩
    cases q : dVal ks ds key with
    | none =>
      rw [q] at h2
      rw [h4 q]
      exact kk .non M2 _ H2 o2 is_non (e1.trans e2) h2
    | some z =>
      rw [q] at h2
      obtain ⟨v, rfl, iv⟩ := h3 z q
      exact kk z M2 v H2 o2 iv (e1.trans e2) h2
  · exact h2.elim
/-- dict(d): as it is, or to be changed -/
def oDict : DC := fun ds M R => match ds with
  | [d] => (match dctI M d with
    | some (ks, es) => R (.dct ks es) M
    | none => False)
  | _ => False
theorem f_dict {d : D} {M : Mem} {R : DR} {ks : List Key} {ds : List D} (h : dctI M d = some (ks, ds)) : oDict [d] M R = R (.dct ks ds) M := by unfold oDict; simp only [h]
def oDictO : DC := fun ds M R => match ds with
  | [d] => (match dctI M d with
    | some (ks, es) => pureL es = true ∧ ∀ p, M p = none → R (.own p) (mset M p (.dct ks es))
    | none => False)
  | _ => False
theorem f_dictO {d : D} {M : Mem} {R : DR} {ks : List Key} {ds : List D} (h : dctI M d = some (ks, ds)) : oDictO [d] M R = (pureL ds = true ∧ ∀ p, M p = none → R (.own p) (mset M p (.dct ks ds))) := by unfold oDictO; simp only [h]
theorem b_dict : BQ X C (.type "dict") oDict := ⟨_, call_dictD, fun ds M R H xs Q ow i1 h k => by
  match ds, h with
  | [d], h =>
    obtain ⟨v, e, q⟩ := isL1 i1
    unfold oDict at h
    simp only at h
    split at h
    · rename_i ks es hd
      obtain ⟨a, us, rfl, ha, hl, il⟩ := dct_at ow q hd
      refine ⟨a, ks.zip us, e, ha, fun p hp => ?_⟩
      have x2 : Ext M M H (upd H p (.dK (ks.zip us))) := Ext.new hp
      refine k _ M _ _ (ow.new hp) ?_ x2 h
      unfold Is
      exact ⟨p, us, rfl, ow.fresh hp, upd_same, hl, IsL.ext x2 _ _ il⟩
    · exact h.elim⟩
theorem b_dictO : BQ X C (.type "dict") oDictO := ⟨_, call_dictD, fun ds M R H xs Q ow i1 h k => by
  match ds, h with
  | [d], h =>
    obtain ⟨v, e, q⟩ := isL1 i1
    unfold oDictO at h
    simp only at h
    split at h
    · rename_i ks es hd
      obtain ⟨a, us, rfl, ha, hl, il⟩ := dct_at ow q hd
      refine ⟨a, ks.zip us, e, ha, fun p hp => ?_⟩
      have x2 : Ext M (mset M p (.dct ks es)) H (upd H p (.dK (ks.zip us))) := Ext.newOwn hp
      exact k _ (mset M p (.dct ks es)) _ _ (ow.setM x2 ⟨h.1, hl, us, upd_same, IsL.ext x2 _ _ il⟩) is_own x2 (h.2 p (ow.fresh hp))
    · exact h.elim⟩
/-- {} that is to be changed -/
def vDctO : DE := fun _ M R => ∀ p, M p = none → R (.own p) (mset M p (.dct [] []))
theorem e_vDctO (γ : Gm) (M : Mem) (R : DR) : vDctO γ M R = (∀ p, M p = none → R (.own p) (mset M p (.dct [] []))) := id rfl
theorem q_dctO : QE X C (.Dict [] [] pos) vDctO := ⟨_, pe_dnewK, fun γ M R σ H Q r h k p hp => by
  have x2 : Ext M (mset M p (.dct [] [])) H (upd H p (.dK [])) := Ext.newOwn hp
  exact k _ _ _ _ (r.ow.setM x2 ⟨rfl, rfl, [], upd_same, IsL.nil⟩) is_own x2 (h p (r.ow.fresh hp))⟩
/-- d[k] = v -/
def vDPut (o i e : DE) : DS := fun Ed γ M => e γ M fun v M1 => o γ M1 fun od M2 => i γ M2 fun k M3 => match od, keyD k with
  | .own a, some x => (match M3 a with
    | some (.dct ks ds) => pureD v = true ∧ ds.length < sizeLine ∧ Ed.nx γ (mset M3 a (.dct (putKs ks x) (putDs ks ds x v)))
    | _ => False)
  | _, _ => False
theorem e_vDPut (o i e : DE) (Ed : DEnds) (γ : Gm) (M : Mem) : vDPut o i e Ed γ M = (e γ M fun v M1 => o γ M1 fun od M2 => i γ M2 fun k M3 => match od, keyD k with
  | .own a, some x => (match M3 a with
    | some (.dct ks ds) => pureD v = true ∧ ds.length < sizeLine ∧ Ed.nx γ (mset M3 a (.dct (putKs ks x) (putDs ks ds x v)))
    | _ => False)
  | _, _ => False) := propext Iff.rfl
theorem qs_dput (hr : Room j X.A) (ho : QE X C o vo) (hi : QE X C i vi) (he : QE X C e ve) (hs : swapsWith e (some (.Subscript o i apos)) pos.line X.env = pure false := by rfl) : QS X C (.Assign [.Subscript o i apos] e pos) (vDPut vo vi ve) := by
  obtain ⟨to, po, so⟩ := ho.ex
  obtain ⟨ti, pi, si⟩ := hi.ex
  obtain ⟨te, pe, se⟩ := he.ex
  refine ⟨_, ps_dput (by have := hr.units; omega) po pi pe hs, fun Ed γ M σ H E r l h => se γ M _ σ H _ r h fun v M1 x H1 o1 i1 e1 h1 => so γ M1 _ σ H1 _ (r.mk' e1 o1) h1 fun od M2 y H2 o2 i2 e2 h2 => si γ M2 _ σ H2 _ ((r.mk' e1 o1).mk' e2 o2) h2 fun k M3 z H3 o3 i3 e3 h3 => ?_⟩
  split at h3
  · rename_i a key q
    split at h3
    · rename_i ks ds qa
      obtain ⟨pv, hz, hn⟩ := h3
      have iy := Is.ext e3 _ _ i2
      unfold Is at iy
      obtain ⟨pu, hl, us, ha, il⟩ := o3 a _ qa
      have ez := keyD_ok i3 q
      have hlu : ks.length = us.length := by rw [hl, il.len]
      have kz := putK_zip (k := key) (v := x) hlu
      have ix := Is.ext (e2.trans e3) _ _ i1
      have is3 : (M3 a).isSome = true := by rw [qa]; rfl
      refine ⟨a, _, iy.1, by rw [ez]; exact DPut.k ha (by rw [List.length_zip, ← il.len]; omega), ?_⟩
      rw [kz]
      have x4 : Ext M3 (mset M3 a (.dct (putKs ks key) (putDs ks ds key v))) H3 (upd H3 a (.dK ((putKs ks key).zip (putDs ks us key x)))) := Ext.put is3
      exact l.nx γ _ σ _ ⟨(r.sl.ext ((e1.trans e2).trans e3)).ext x4, o3.setM x4 ⟨pureL_putDs pv pu, putDs_len hl, _, upd_same, IsL.ext x4 _ _ (isL_putDs ix hl il)⟩⟩ (((e1.trans e2).trans e3).trans x4) hn
    · exact h3.elim
  · exact h3.elim
/-- sorted(d), its keys texts -/
def strKs : List Key → Option (List Str)
  | [] => some []
  | .inr x :: r => (strKs r).map (x :: ·)
  | _ => none
theorem strKs_eq : ∀ {ks : List Key} {ss : List Str}, strKs ks = some ss → ks = ss.map Sum.inr
  | [], ss, h => by cases h; rfl
  | .inr x :: r, ss, h => by
    have h' : (strKs r).map (x :: ·) = some ss := h
    cases q : strKs r with
    | none => rw [q] at h'; cases h'
    | some ts => rw [q] at h'; cases h'; rw [strKs_eq q]; rfl
  | .inl _ :: _, _, h => by cases h
theorem strKs_map (ss : List Str) : strKs (ss.map Sum.inr) = some ss := by
  induction ss with
  | nil => rfl
  | cons x r ih => show (strKs (r.map Sum.inr)).map (x :: ·) = _; rw [ih]; rfl
def oSortD : DC := fun ds M R => match ds with
  | [d] => (match dctI M d with
    | some (ks, _) => (match strKs ks with
      | some ss => ss.length < 64 ∧ ∀ ys : List Str, ys.Perm ss → PyProof.Rows.sortedS ys = true → R (.lst (ys.map D.str)) M
      | none => False)
    | none => False)
  | _ => False
theorem f_sortD {d : D} {M : Mem} {R : DR} {ks : List Key} {ds : List D} {ss : List Str} (h : dctI M d = some (ks, ds)) (h2 : strKs ks = some ss) : oSortD [d] M R = (ss.length < 64 ∧ ∀ ys : List Str, ys.Perm ss → PyProof.Rows.sortedS ys = true → R (.lst (ys.map D.str)) M) := by unfold oSortD; simp only [h, h2]
theorem isL_strs {G : Gx} {M : Mem} {H : Hp} : ∀ ss : List Str, IsL G M H (ss.map D.str) (ss.map V.str)
  | [] => IsL.nil
  | _ :: r => IsL.cons is_str (isL_strs r)
theorem b_sortD (hc : X.calm = true := by rfl) : BQ X C (.builtin "sorted") oSortD := ⟨_, call_sortedD hc, fun ds M R H xs Q ow i1 h k => by
  match ds, h with
  | [d], h =>
    obtain ⟨v, e, q⟩ := isL1 i1
    unfold oSortD at h
    simp only at h
    split at h
    · rename_i ks es hd
      split at h
      · rename_i ss hss
        obtain ⟨a, us, rfl, ha, hl, il⟩ := dct_at ow q hd
        refine ⟨a, ks.zip us, ss, e, ha, ?_, h.1, fun ys p hy hs hp => ?_⟩
        · rw [List.map_fst_zip (by rw [← il.len]; omega), strKs_eq hss]
        · exact k _ M _ _ (ow.new hp) (new_lst ow hp (isL_strs ys)) (Ext.new hp) (h.2 ys hy hs)
      · exact h.elim
    · exact h.elim⟩
end
end Dl
namespace Dl
open PySem L2
theorem okF_dct {M : Mem} {ks : List Key} {i : List D} : okF M (.dct ks i) = True := id rfl
theorem okF_ln {M : Mem} {t p o : Int} : okF M (.ln t p o) = True := id rfl
theorem fldD_dct {ks : List Key} {i : List D} : fldD (.dct ks i) = pureL i := id rfl
/-! ### list(d.keys()) -/
section
variable {X : Cx} {C : Addr} {o : Expr} {vo : DE} {pos apos cpos p : Pos}
def tKeysL (td : TE) : TE := fun σ H Q => td σ H fun x H1 => ∃ a kvs, x = .ref a ∧ Rd H1 a (.dK kvs) ∧ ∀ p, H1 p = none → Q (.ref p) (upd H1 p (.lst (kvs.map fun kv => kV kv.1)))
open PySem.Spec PyProof.Rows in
theorem pe_keysL {td : TE} (hcalm : X.calm = true) (hg : Gl X "list") (hm : X.mg "list" = none) (he : PE X o td) (hbase : attributeBase o "keys" X.env (eval o X.env) = eval o X.env := by rfl) (hline : (apos.endLine == cpos.line) = true := by rfl)
    (hs : backTo pos (starEach [.Call (.Attribute o "keys" apos) [] [] cpos] X.env) = [(false, eval (.Call (.Attribute o "keys" apos) [] [] cpos) X.env)] := by rfl) :
    PE X (.Call (.Name "list" p) [.Call (.Attribute o "keys" apos) [] [] cpos] [] pos) (tKeysL td) := by
  refine ⟨fun pins s σ H Q I h => Call_ (ld_blt I hg hm PyProof.Rows.boot_list ?_)⟩
  show wpAny _ _ (callWith pos (.type "list") [] (backTo pos (starEach [.Call (.Attribute o "keys" apos) [] [] cpos] X.env)) []) _ _ _
  rw [hs]
  refine PyProof.Rows.callWith_type rfl (Calls.evalArgs_plain (Calls.spliced_cons ?_))
  refine wpAny_Call_method (T := "dict") (id := "dict.keys") hbase rfl hline F.plainAttrs_dict F.slot_dict_keys F.type_dict_keys (thn (he.run pins _ σ H _ (I.tok _) h) fun u s1 ⟨x, H1, I1, rx, a, kvs, ex, hd, q⟩ => ?_)
  subst ex
  obtain rfl : u = Value.ref a := rx
  obtain ⟨z, lo, vs, rel, dd⟩ := dk_rd I1.hok hd
  obtain ⟨ep, hat⟩ := dd.dictAt
  refine ⟨dd.typeIs, fun b e => ?_, ?_⟩
  · cases e
    obtain ⟨ob, _, _, h1, h2, _⟩ := dd
    exact ⟨ob, h1, h2.2.1⟩
  have I2 : Inv X pins σ H1 { s1 with heap := s1.heap.push { cls := .type "dict_keys", data := .fields #[.ref a] } } := I1.kept (t' := s1.toks) fun b ob e => Heap.get?_push_of_some _ e
  have ek : (kvs.map fun kv => kV kv.1) = vs.map fun p => kV p.1 := by
    have e := congrArg (List.map kV) rel.keys
    rw [List.map_map, List.map_map] at e
    exact e
  refine PySem.method_meetsIn F.slot_dict_keys F.entry_dict_keys rfl (PySem.evalArgs_none ⟨rfl, dd.typeIs, F.args_dict_keys_1 _, _, PySem.W.kdl_meets_keys (mixKind X.prog X.w) a lo, ⟨vs, dd⟩, ?_⟩)
  refine Calls.spliced_nil ?_
  show wpAny _ _ (call (.type "list") [.ref s1.heap.objs.size]) _ _ _
  refine PySem.W.kdl_call (PySem.W.kdl_keys (knd := mixKind X.prog X.w) (r := s1.heap.objs.size) (d := a) (kvs := vs) (ep := ep)) (I2.ok.hd hcalm) ⟨⟨_, Heap.get?_push_size _ rfl, rfl, rfl⟩, hat.push _⟩ (by rw [← rel.length]; exact z) fun h' tk acc c' hk hD hacc => ?_
  have hv : Vals (vs.map fun p => kV p.1) acc.toList := keys_at (by rw [Array.length_toList]; exact hacc.1) fun j v e => hacc.2 j v (by rw [← Array.getElem?_toList]; exact e)
  refine ⟨.ref _, upd H1 (s1.heap.push { cls := .type "dict_keys", data := .fields #[.ref a] }).objs.size (.lst (kvs.map fun kv => kV kv.1)), I2.laid (t' := tk) hk (Nat.le_refl _)
    (show ObjOk X.prog X.w _ _ _ (.lst (kvs.map fun kv => kV kv.1)) from ⟨by rw [List.length_map]; exact z, acc.toList, c', by rw [ek]; exact hv, by rw [Array.toArray_toList]; exact hD⟩), rfl, q _ (I2.hok.fresh (Nat.le_refl _))⟩
def vKeysL (o : DE) : DE := fun γ M R => o γ M fun d M1 => match dctI M1 d with
  | some (ks, _) => R (.lst (ks.map datK)) M1
  | none => False
theorem e_vKeysL (o : DE) (γ : Gm) (M : Mem) (R : DR) : vKeysL o γ M R = (o γ M fun d M1 => match dctI M1 d with
  | some (ks, _) => R (.lst (ks.map datK)) M1
  | none => False) := propext Iff.rfl
theorem isL_keys {G : Gx} {M : Mem} {H : Hp} : ∀ ks : List Key, IsL G M H (ks.map datK) (ks.map kV)
  | [] => IsL.nil
  | .inl _ :: r => IsL.cons is_int (isL_keys r)
  | .inr _ :: r => IsL.cons is_str (isL_keys r)
theorem q_keysL (hm : X.mg "list" = none) (ho : QE X C o vo) (hg : Gl X "list" := by rfl) (hc : X.calm = true := by rfl) (hbase : attributeBase o "keys" X.env (eval o X.env) = eval o X.env := by rfl) (hline : (apos.endLine == cpos.line) = true := by rfl)
    (hs : backTo pos (starEach [.Call (.Attribute o "keys" apos) [] [] cpos] X.env) = [(false, eval (.Call (.Attribute o "keys" apos) [] [] cpos) X.env)] := by rfl) :
    QE X C (.Call (.Name "list" p) [.Call (.Attribute o "keys" apos) [] [] cpos] [] pos) (vKeysL vo) := by
  obtain ⟨to, po, so⟩ := ho.ex
  refine ⟨_, pe_keysL hc hg hm po hbase hline hs, fun γ M R σ H Q r h kk => so γ M _ σ H _ r h fun d M1 x H1 o1 i1 e1 h1 => ?_⟩
  split at h1
  · rename_i ks ds q
    obtain ⟨a, xs, ex, ha, hl, il⟩ := dct_at o1 i1 q
    refine ⟨a, _, ex, ha, fun p hp => ?_⟩
    have e2 : ((ks.zip xs).map fun kv => kV kv.1) = ks.map kV := by
      have e3 : (ks.zip xs).map (·.1) = ks := List.map_fst_zip (by rw [← il.len]; omega)
      have := congrArg (List.map kV) e3
      rw [List.map_map] at this
      exact this
    rw [e2]
    exact kk _ M1 _ _ (o1.new hp) (new_lst o1 hp (isL_keys ks)) (e1.trans (Ext.new hp)) h1
  · exact h1.elim
end
/-! ### the signs of a text -/
section
variable {X : Cx} {C : Addr} {tg e : Expr} {ve : DE}
def sgs (x : Str) : List D := x.cps.toList.map fun c => D.str ⟨#[c]⟩
theorem sgs_get {x : Str} {i : Nat} {d : D} : (sgs x)[i]? = some d ↔ ∃ c, x.cps[i]? = some c ∧ d = .str ⟨#[c]⟩ := by
  unfold sgs
  rw [List.getElem?_map, Option.map_eq_some_iff, Array.getElem?_toList]
  constructor
  · rintro ⟨c, h, rfl⟩; exact ⟨c, h, rfl⟩
  · rintro ⟨c, h, rfl⟩; exact ⟨c, h, rfl⟩
theorem sgs_len {x : Str} : (sgs x).length = x.cps.size := by unfold sgs; simp
theorem itR_str {G : Gx} {M1 : Mem} {H1 : Hp} {x : Str} : ItR G M1 H1 (Its x) ⟨sgs x, fun _ => True⟩ := by
  intro M H xx o st i
  refine ⟨fun d hd => ?_, fun hn => ?_⟩
  · obtain ⟨c, hc, rfl⟩ := sgs_get.mp hd
    have hi : i < x.cps.size := by
      rcases Nat.lt_or_ge i x.cps.size with h | h
      · exact h
      · rw [Array.getElem?_eq_none h] at hc; cases hc
    refine ⟨hi, fun y H' hy => ?_⟩
    obtain ⟨eH, c', hc', ey⟩ := hy
    subst eH
    rw [hc] at hc'
    cases hc'
    rw [ey]
    exact ⟨o, is_str, Ext.refl⟩
  · show x.cps.size ≤ i
    rw [← sgs_len]; exact hn
def wStr (a : DE) : DI := fun γ M R => a γ M fun d M1 => match d with
  | .str x => R ⟨sgs x, fun _ => True⟩ M1
  | _ => False
theorem e_wStr (a : DE) (γ : Gm) (M : Mem) (R : ItD → Mem → Prop) : wStr a γ M R = (a γ M fun d M1 => match d with
  | .str x => R ⟨sgs x, fun _ => True⟩ M1
  | _ => False) := propext Iff.rfl
theorem qi_str (he : QE X C e ve) : QI X C tg e (wStr ve) := by
  obtain ⟨t, p, s⟩ := he.ex
  refine ⟨_, pi_str p, fun γ M R σ H Q r h k => s γ M _ σ H _ r h fun d M1 x H1 o1 i1 e1 h1 => ?_⟩
  cases d with
  | str y =>
    unfold Is at i1
    exact ⟨y, i1, k _ _ M1 H1 o1 e1 itR_str h1⟩
  | _ => exact False.elim h1
theorem mf_str {g : DG} {t : DT} {ve e : DE} {vs : List Nat} {γ : Gm} {M M1 : Mem} {R : DR} (c : D → Bool) (f : D → D) (x : Str) (hve : ∀ F : DR, F (.str x) M1 → ve γ M F) (hl : x.cps.size < sizeLine) (hp : ∀ d ∈ sgs x, c d = true → pureD (f d) = true)
    (step : ∀ (i : Nat) (d : D) (p : Addr) (acc : List D) (P : DR) (Q : Mem → Prop), (sgs x)[i]? = some d → M1 p = none → (c d = true → P (f d) (mset M1 p (.lst acc))) → (c d = false → Q (mset M1 p (.lst acc))) →
      g d (gwipe γ vs) (mset M1 p (.lst acc)) fun γ2 M2 => t γ2 M2 fun b M3 => (b = true → e γ2 M3 P) ∧ (b = false → Q M3))
    (hR : R (.lst (((sgs x).filter c).map f)) M1) : vLc (wStr ve) g t e vs γ M R :=
  hve _ (lc_mf (j := ⟨sgs x, fun _ => True⟩) c f (by show (sgs x).length < _; rw [sgs_len]; exact hl) (fun _ _ _ => trivial) hp step hR)
/-- one sign in a text -/
def oInSg (f : Bool → Bool) : DO := fun d e M R => ∃ (c : Nat) (z : Str), d = .str ⟨#[c]⟩ ∧ e = .str z ∧ R (.bl (f (decide (c ∈ z.cps.toList)))) M
theorem e_oInSg (f : Bool → Bool) (d e : D) (M : Mem) (R : DR) : oInSg f d e M R = (∃ (c : Nat) (z : Str), d = .str ⟨#[c]⟩ ∧ e = .str z ∧ R (.bl (f (decide (c ∈ z.cps.toList)))) M) := id rfl
theorem c_inSg : CmpQ X C .In (oInSg id) := ⟨_, op_in_sign, fun d e M R H x y Q o i1 i2 h k => by
  obtain ⟨c, z, rfl, rfl, h⟩ := h
  unfold Is at i1 i2
  exact ⟨c, z, i1, i2, k _ M _ H o is_bl Ext.refl h⟩⟩
theorem c_notInSg : CmpQ X C .NotIn (oInSg Bool.not) := ⟨_, op_notIn_sign, fun d e M R H x y Q o i1 i2 h k => by
  obtain ⟨c, z, rfl, rfl, h⟩ := h
  unfold Is at i1 i2
  exact ⟨c, z, i1, i2, k _ M _ H o is_bl Ext.refl h⟩⟩
end
/-! ### {k: v for x in xs if ..} -/
def vDc (w : DI) (g : DG) (t : DT) (ek ev : DE) (vs : List Nat) : DE := fun γ M R => w γ M fun j M1 => ∀ p, M1 p = none → ∃ W : Nat → List Key → List D → Mem → Prop, W 0 [] [] M1 ∧
  (∀ i ks ds M', W i ks ds M' → M' p = none ∧ ds.length < sizeLine ∧ j.st (mset M' p (.dct ks ds))) ∧
  (∀ i ks ds M' d, W i ks ds M' → j.its[i]? = some d → g d (gwipe γ vs) (mset M' p (.dct ks ds)) fun γ2 M2 => t γ2 M2 fun b M3 =>
    (b = true → ek γ2 M3 fun x M4 => ev γ2 M4 fun y M5 => ∃ k, keyD x = some k ∧ pureD y = true ∧ ∃ M6, M5 = mset M6 p (.dct ks ds) ∧ W (i + 1) (putKs ks k) (putDs ks ds k y) M6) ∧ (b = false → ∃ M5, M3 = mset M5 p (.dct ks ds) ∧ W (i + 1) ks ds M5)) ∧
  (∀ ks ds M', W j.its.length ks ds M' → R (.dct ks ds) M')
theorem snd_dc {G : Gx} {wi : TI} {w : DI} {g : DG} {t : DT} {vk vv : DE} {vs : List Nat} (si : SndI G wi w) : Snd G (tDc wi (liftG G g vs) (liftT G t) (Dl.lift G vk) (Dl.lift G vv) vs) (vDc w g t vk vv vs) := by
  intro γ M R σ H Q r h k
  refine si γ M _ σ H _ r h fun j J M1 H1 o1 e1 ir h1 p hp => ?_
  have mp : M1 p = none := o1.fresh hp
  obtain ⟨W, w0, ws, step, fin⟩ := h1 p mp
  have x0 : Ext M1 (mset M1 p (.dct [] [])) H1 (upd H1 p (.dK [])) := Ext.newOwn hp
  have own0 : Own G (mset M1 p (.dct [] [])) (upd H1 p (.dK [])) := o1.setM x0 ⟨rfl, rfl, [], upd_same, IsL.nil⟩
  refine ⟨fun i m H' => m = j.its.length - i ∧ i ≤ j.its.length ∧ ∃ ks ds M', Own G (mset M' p (.dct ks ds)) H' ∧ Ext M1 (mset M' p (.dct ks ds)) H1 H' ∧ W i ks ds M', ⟨j.its.length, by simp, Nat.zero_le _, [], [], M1, own0, x0, w0⟩, ?_⟩
  rintro i m H' ⟨rfl, hi, ks, ds, M', oM, eM, wi'⟩
  obtain ⟨mp', hz, hst⟩ := ws i ks ds M' wi'
  obtain ⟨go, stop⟩ := ir _ H' eM oM hst i
  by_cases hlt : i < j.its.length
  · have hd : j.its[i]? = some j.its[i] := by simp [hlt]
    obtain ⟨g1, y1⟩ := go _ hd
    refine .inr ⟨g1, fun H2 => ∃ ks ds M', Own G (mset M' p (.dct ks ds)) H2 ∧ Ext M1 (mset M' p (.dct ks ds)) H1 H2 ∧ W (i + 1) ks ds M', fun H2 q => ⟨j.its.length - (i + 1), by omega, rfl, hlt, q⟩, fun x H2 hy => ?_⟩
    obtain ⟨o2, i2, e2⟩ := y1 x H2 hy
    have x2 := eM.trans e2
    refine ⟨j.its[i], gwipe γ vs, mset M' p (.dct ks ds), _, ⟨((r.sl.ext (e1.trans x2)).wipe vs), o2⟩, i2, step i ks ds M' _ wi' hd, fun γ3 M3 σ3 H3 r3 e3 w3 h3 => ⟨w3.trans wipe_wipe, ?_⟩⟩
    refine ⟨γ3, M3, _, r3, h3, fun b M4 H4 o4 e4 h4 => ?_⟩
    cases b with
    | true =>
      rw [if_pos rfl]
      refine ⟨γ3, M4, _, r3.mk' e4 o4, h4.1 rfl, fun x M5 v H5 o5 i5 e5 h5 => ?_⟩
      refine ⟨γ3, M5, _, (r3.mk' e4 o4).mk' e5 o5, h5, fun y M6 u H6 o6 i6 e6 h6 => ?_⟩
      obtain ⟨key, ek, pu, M7, eq, w7⟩ := h6
      subst eq
      obtain ⟨pa, hl, xs, hx, il⟩ := o6 p (.dct ks ds) mset_same
      have hlu : ks.length = xs.length := by rw [hl, il.len]
      refine ⟨ks.zip xs, key, keyD_ok i5 ek, hx, by rw [List.length_zip, ← il.len]; omega, putKs ks key, putDs ks ds key y, M7, ?_, ?_, w7⟩
      · rw [putK_zip hlu]
        have x7 : Ext (mset M7 p (.dct ks ds)) (mset (mset M7 p (.dct ks ds)) p (.dct (putKs ks key) (putDs ks ds key y))) H6 (upd H6 p (.dK ((putKs ks key).zip (putDs ks xs key u)))) := Ext.put (by rw [mset_same]; rfl)
        have q := o6.setM x7 ⟨pureL_putDs pu pa, putDs_len hl, _, upd_same, IsL.ext x7 _ _ (isL_putDs i6 hl il)⟩
        rw [mset_set] at q
        exact q
      · rw [putK_zip hlu]
        have q := (((x2.trans e3).trans (e4.trans e5)).trans e6).trans (Ext.put (p := p) (o := .dK ((putKs ks key).zip (putDs ks xs key u))) (m := .dct (putKs ks key) (putDs ks ds key y)) (by rw [mset_same]; rfl))
        rw [mset_set] at q
        exact q
    | false =>
      rw [if_neg Bool.false_ne_true]
      obtain ⟨M6, eq, w6⟩ := h4.2 rfl
      subst eq
      exact ⟨ks, ds, M6, o4, (x2.trans e3).trans e4, w6⟩
  · have en : i = j.its.length := by omega
    subst en
    refine .inl ⟨stop (Nat.le_refl _), ?_⟩
    obtain ⟨pa, hl, xs, hx, il⟩ := oM p (.dct ks ds) mset_same
    have sub : Sub M' (mset M' p (.dct ks ds)) := Sub.set mp'
    have xx := e1.trans eM
    refine k (.dct ks ds) M' (.ref p) H' (oM.sub sub) ?_ (xx.sub sub fun a ha => ?_) (fin ks ds M' wi')
    · unfold Is
      exact ⟨p, xs, rfl, mp', hx, hl, IsL.sub (fun b hb => sub.non hb) ds xs pa il⟩
    · have q := xx.ow a ha
      by_cases hap : a = p
      · subst hap
        have z := e1.ow a ha
        rw [mp] at z; cases z
      · rw [mset_ne hap] at q; exact q
section
variable {X : Cx} {C : Addr} {pos : Pos}
theorem q_dc {kx vx tg iter : Expr} {ifs : List Expr} {scope : Scope} {own : List (Str × Nat)} {w : DI} {g : DG} {t : DT} {vk vv : DE} (hN : X.N.Nodup) (hi : QI X C tg iter w) (ok : BlkOk X.N X.env.scope scope own)
    (hg : ∀ (s : Shared) (H : Hp) (a : Addr) (cl : List (Str × Addr)) (fp : List Addr), QGW (X.blk s H scope (compEnvC scope cl a X.env) fp) C tg g (own.map (·.2))) (ht : ∀ (s : Shared) (H : Hp) (a : Addr) (cl : List (Str × Addr)) (fp : List Addr), QTs (X.blk s H scope (compEnvC scope cl a X.env) fp) C ifs t)
    (hk : ∀ (s : Shared) (H : Hp) (a : Addr) (cl : List (Str × Addr)) (fp : List Addr), QE (X.blk s H scope (compEnvC scope cl a X.env) fp) C kx vk)
    (he : ∀ (s : Shared) (H : Hp) (a : Addr) (cl : List (Str × Addr)) (fp : List Addr), QE (X.blk s H scope (compEnvC scope cl a X.env) fp) C vx vv) (hc : X.calm = true := by rfl) (hs : ∀ x, foldedSetIterable iter X.env x = pure x := by intro _; rfl) :
    QE X C (.DictComp kx vx [⟨tg, iter, ifs, 0⟩] scope pos) (vDc w g t vk vv (own.map (·.2))) := by
  obtain ⟨wi, pi, si⟩ := hi.ex
  exact ⟨_, pe_dc hc hN pi ok (fun s H a cl fp => (hg s H a cl fp).lift) (fun s H a cl fp => (ht s H a cl fp).lift) (fun s H a cl fp => (hk s H a cl fp).lift) (fun s H a cl fp => (he s H a cl fp).lift) hs, snd_dc si⟩
/-- over a list of distinct keys, the values plain -/
theorem vdc_list {g : DG} {t : DT} {ek ev ve : DE} {vs : List Nat} {γ : Gm} {M M1 : Mem} {R : DR} (c : D → Bool) (kf : D → Key) (vf : D → D) (ds : List D) (hve : ∀ F : DR, F (.lst ds) M1 → ve γ M F) (hl : ds.length < sizeLine) (nd : (ds.map kf).Nodup) (hp : ∀ d ∈ ds, c d = true → pureD (vf d) = true)
    (step : ∀ (d : D) (p : Addr) (ks : List Key) (es : List D) (P : List Key → List D → Mem → Prop), d ∈ ds → M1 p = none → (c d = true → P (putKs ks (kf d)) (putDs ks es (kf d) (vf d)) M1) → (c d = false → P ks es M1) →
      g d (gwipe γ vs) (mset M1 p (.dct ks es)) fun γ2 M2 => t γ2 M2 fun b M3 =>
        (b = true → ek γ2 M3 fun x M4 => ev γ2 M4 fun y M5 => ∃ k, keyD x = some k ∧ pureD y = true ∧ ∃ M6, M5 = mset M6 p (.dct ks es) ∧ P (putKs ks k) (putDs ks es k y) M6) ∧ (b = false → ∃ M5, M3 = mset M5 p (.dct ks es) ∧ P ks es M5))
    (hR : R (.dct ((ds.filter c).map kf) ((ds.filter c).map vf)) M1) : vDc (wList ve) g t ek ev vs γ M R := by
  refine hve _ (fun p hpn => ?_)
  have tk : ∀ {i : Nat} {d : D}, ds[i]? = some d → ds.take (i + 1) = ds.take i ++ [d] := fun h => by rw [List.take_succ, h]; rfl
  refine ⟨fun i ks es M' => M' = M1 ∧ ks = ((ds.take i).filter c).map kf ∧ es = ((ds.take i).filter c).map vf, ⟨rfl, rfl, rfl⟩, ?_, ?_, ?_⟩
  · rintro i ks es M' ⟨rfl, rfl, rfl⟩
    refine ⟨hpn, ?_, rfl⟩
    rw [List.length_map]
    refine Nat.lt_of_le_of_lt (List.length_filter_le _ _) ?_
    rw [List.length_take]
    exact Nat.lt_of_le_of_lt (Nat.min_le_right _ _) hl
  · rintro i ks es M' d ⟨rfl, rfl, rfl⟩ hd
    refine step d p _ _ (fun ks es M2 => M2 = M' ∧ ks = ((ds.take (i + 1)).filter c).map kf ∧ es = ((ds.take (i + 1)).filter c).map vf) (List.mem_of_getElem? hd) hpn (fun h => ⟨rfl, ?_⟩) (fun h => ⟨rfl, ?_⟩)
    · have hni : kf d ∉ ((ds.take i).filter c).map kf := fun z => by
        obtain ⟨y, hy, e⟩ := List.mem_map.mp z
        have hy := (List.mem_filter.mp hy).1
        have nd2 : (((ds.take i).map kf) ++ [kf d]).Nodup := by
          have q := nd.sublist ((List.take_sublist (i + 1) ds).map kf)
          rw [tk hd, List.map_append] at q
          exact q
        rw [List.nodup_append] at nd2
        exact nd2.2.2 (kf y) (List.mem_map_of_mem hy) (kf d) (by simp) e
      rw [tk hd, List.filter_append, List.map_append, List.map_append]
      unfold putKs putDs
      rw [if_neg (fun z => hni (hasK_iff.mp z)), if_neg (fun z => hni (hasK_iff.mp z))]
      simp [List.filter_cons, h]
    · rw [tk hd, List.filter_append, List.map_append, List.map_append]
      simp [List.filter_cons, h]
  · rintro ks es M' ⟨rfl, rfl, rfl⟩
    show R (.dct ((((ds).take ds.length).filter c).map kf) (((ds.take ds.length).filter c).map vf)) M'
    rw [List.take_length]; exact hR
end
end Dl
namespace Dl
open PySem L2
/-! ### methods of owned objects with a star parameter -/
def spV (G : Gx) (nmax : Nat) (S : DSp) : Sp := fun vs H Q _ => ∃ (d : D) (es : List D) (M : Mem) (R : DR), es.length ≤ nmax ∧ IsL G M H (d :: es) vs ∧ Own G M H ∧ S [d, .tup es] M R noX ∧
  ∀ d M' x H', Own G M' H' → Is G M' H' d x → Ext M M' H H' → R d M' → Q x H'
theorem cxNew0 : CXNew CX0 := fun _ _ _ _ _ _ _ _ _ _ _ _ h => h
section
variable {P : Program} {w : World} {K : PySem.W.Frag} {mg : Str → Option Value} {base : Heap} {x qual : Str} {params : Arguments} {body : List Stmt} {scope : Scope} {kws : List (Str × V)} {f : Addr} {fd : FuncData}
theorem fn_okV {N : List Str} {pa pv : Str} {k : Nat} {C : Addr} {S : DSp} {v : DS} (n nmax : Nat) (F : FunD K x qual params body scope [] kws f fd) (SC : FnScope N [pa, pv] scope) (hz : nmax ≤ sizeLine)
    (hb : ∀ (kV doc pm : Value) (an : Option Addr) (cdv ct : Value) (u : Value) (rest : List Value), rest.length ≤ nmax → bindArgs (PySem.W.fnOf x qual params body scope .none kV doc pm an cdv ct) ⟨u :: rest, []⟩ = (newTuple rest >>= fun t => pure [(pa, u), (pv, t)]))
    (hq : ∀ (cdv : Value) (A : Around) (outer : List Env) (s : Shared) (H : Hp) (E : XK), Room k (A.deeper (PyProof.Rows.envOfC qual scope s.heap.objs.size f cdv)) → QSs (cxOf CX0 P w K mg base N qual scope f cdv A outer s H E).nox C body v)
    (hv : ∀ ds M R, ds.length = 2 → S ds M R noX → v (fEnds M R) (st0 n ds) M) (hn : N.length = n := by rfl) : FnR P w K mg base CX0 (k + 1) f (spV ⟨K, C⟩ nmax S) := by
  subst hn
  have hpl : 2 ≤ N.length := by have := congrArg List.length SC.pre; rw [List.length_take] at this; simp at this; omega
  obtain ⟨oc, od, dV, kV, doc, pm, an, cdv, ct, osl, e, lk, hcd, hD, hK⟩ := F.ex
  rcases hD with ⟨_, e2⟩ | ⟨z, _⟩
  · subst e; subst e2
    refine FnR.imp (fn_ofV (CX := CX0) (sp := spD ⟨K, C⟩ 2 S) lk hcd SC hz (hb kV doc pm an cdv ct) cxNew0 fun A outer s H vs Q E hr h => ?_) fun vs H Q E h => ?_
    · obtain ⟨ds, M, R, hl, il, ow, hs, k2⟩ := h
      obtain ⟨t, pt, st⟩ := (hq cdv A outer s H E hr).ex
      refine ⟨t, pt.nox, st (fEnds M R) (st0 N.length ds) M _ H _ ⟨st0_rel il (by omega), ow⟩ ⟨?_, ?_, ?_, ?_, ?_⟩ (hv ds M R hl hs)⟩
      · intro γ M' σ H' r' e' h'
        exact fin_ok r'.ow is_non e' h' k2
      · intro d M' y H' o' i' e' h'
        exact fin_ok o' i' e' h' k2
      · intro _ _ _ _ _ _ h'; exact h'.elim
      · intro _ _ _ _ _ _ h'; exact h'.elim
      · intro _ _ _ _ _ _ _ _ _ _ h'; exact h'.elim
    · obtain ⟨d, es, M, R, hn, il, ow, hs, k2⟩ := h
      match vs, il with
      | [], il => unfold IsL at il; exact il.elim
      | v :: rest, il =>
        unfold IsL at il
        refine ⟨v, rest, rfl, by rw [← il.2.len]; exact hn, fun p hp => ?_⟩
        have x2 : Ext M M H (upd H p (.tup rest)) := Ext.new hp
        exact ⟨[d, .tup es], M, R, rfl, IsL.cons (Is.ext x2 _ _ il.1) (IsL.cons (new_tup ow hp il.2) IsL.nil), ow.new hp, hs, fun d' M' y H' o' i' e' h' => k2 d' M' y H' o' i' (x2.trans e') h'⟩
  · exact absurd rfl z
end
structure MVOk (P : Program) (w : World) (K : PySem.W.Frag) (mg : Str → Option Value) (base : Heap) (C : Addr) (k : Nat) (c m : Str) (nmax : Nat) (S : DSp) : Prop where
  ex : ∃ (f : Addr), OCls K c ∧ Meth K (He.ga K c) m f ∧ m ∉ clsF c ∧ FnR P w K mg base CX0 k f (spV ⟨K, C⟩ nmax S)
def vObjV (c : Str) (nmax : Nat) (S : DSp) (o : DE) (a : DA) : DE := fun γ M R => o γ M fun od M1 => match od with
  | .own x => (match M1 x with
    | some (.obj c' _) => c' = c ∧ a γ M1 fun ds M2 => ds.length ≤ nmax ∧ S [.own x, .tup ds] M2 R noX
    | _ => False)
  | _ => False
theorem e_vObjV (c : Str) (nmax : Nat) (S : DSp) (o : DE) (a : DA) (γ : Gm) (M : Mem) (R : DR) : vObjV c nmax S o a γ M R = (o γ M fun od M1 => match od with
  | .own x => (match M1 x with
    | some (.obj c' _) => c' = c ∧ a γ M1 fun ds M2 => ds.length ≤ nmax ∧ S [.own x, .tup ds] M2 R noX
    | _ => False)
  | _ => False) := propext Iff.rfl
section
variable {X : Cx} {C : Addr} {j k nmax : Nat} {S : DSp} {o e : Expr} {es : List Expr} {vo : DE} {va : DA} {c m : Str} {pos apos : Pos}
theorem q_methV (h : MVOk X.prog X.w X.K X.mg X.base C k c m nmax S) (hr : Room j X.A) (hkj : k ≤ j) (ho : QE X C o vo) (ha : QA X C (e :: es) va)
    (hpe : ∀ {C' f : Addr} {sp : Sp} {to : TE} {ta : TA}, PE X o to → Cls X.K C' → Meth X.K C' m f → FnR X.prog X.w X.K X.mg X.base CX0 k f sp → Room k X.A → PA X (e :: es) ta → PE X (.Call (.Attribute o m apos) (e :: es) [] pos) (tMethR C' m sp E0 to ta) := by exact fun h1 h2 h3 h4 h5 h6 => pe_methR h1 h2 h3 h4 h5 pass0 h6) :
    QE X C (.Call (.Attribute o m apos) (e :: es) [] pos) (vObjV c nmax S vo va) := by
  obtain ⟨f, T, hm, hp, F⟩ := h.ex
  obtain ⟨to, po, so⟩ := ho.ex
  obtain ⟨ta, pa, sa⟩ := ha.ex
  refine ⟨_, hpe po T.cls hm F (hr.mono hkj) pa, fun γ M R σ H Q r h kk => so γ M _ σ H _ r h fun od M1 x H1 o1 i1 e1 h1 => ?_⟩
  cases od with
  | own a =>
    simp only at h1
    split at h1
    · rename_i c' ds q
      obtain ⟨rfl, h1⟩ := h1
      obtain ⟨hl, dx, vs, hx, _⟩ := own_obj o1 q
      have i1' := i1
      unfold Is at i1'
      refine ⟨a, dx, _, i1'.1, hx, zip_none hp, sa γ M1 _ σ H1 _ (r.mk' e1 o1) h1 fun ds2 M2 xs H2 o2 i2 e2 h2 => ?_⟩
      exact ⟨.own a, ds2, M2, R, h2.1, IsL.cons (Is.ext e2 _ _ i1) i2, o2, h2.2, fun d' M' y H' o' i' e' h' => kk d' M' y H' o' i' ((e1.trans e2).trans e') h'⟩
    · exact h1.elim
  | _ => exact False.elim h1
end
theorem f_lenDc {ks : List Key} {ds : List D} {M : Mem} {R : DR} : oLenD [.dct ks ds] M R = R (.int ks.length) M := id rfl
theorem f_inDc {f : Bool → Bool} {x : Str} {ks : List Key} {ds : List D} {M : Mem} {R : DR} : oInDct f (.str x) (.dct ks ds) M R = R (.bl (f (dVal ks ds (.inr x)).isSome)) M := id rfl
theorem f_dictc {ks : List Key} {ds : List D} {M : Mem} {R : DR} : oDict [.dct ks ds] M R = R (.dct ks ds) M := id rfl
theorem f_dictOc {ks : List Key} {ds : List D} {M : Mem} {R : DR} : oDictO [.dct ks ds] M R = (pureL ds = true ∧ ∀ p, M p = none → R (.own p) (mset M p (.dct ks ds))) := id rfl
theorem k_str {x : Str} : keyD (.str x) = some (.inr x) := id rfl
theorem k_int {x : Int} : keyD (.int x) = some (.inl x) := id rfl
theorem vdc_eq {ve : DE} {g : DG} {t : DT} {ek ev : DE} {vs : List Nat} {γ : Gm} {M : Mem} {R : DR} : vDc (wList ve) g t ek ev vs γ M R = ve γ M (fun d M1 => vDc (wList (fun _ M2 R2 => R2 d M2)) g t ek ev vs γ M1 R) := id rfl
theorem bb_dict : bootBuiltins "dict" = some (.type "dict") := by decide +kernel
/-! ### an owned list against [] (whatever it holds) -/
def oEqNO (f : Bool → Bool) : DO := fun d e M R => match d, e with
  | .own a, .lst [] => (match M a with
    | some (.lst ds) => R (.bl (f ds.isEmpty)) M
    | _ => False)
  | _, _ => False
theorem f_eqNO {f : Bool → Bool} {a : Addr} {M : Mem} {R : DR} : oEqNO f (.own a) (.lst []) M R = (match M a with
    | some (.lst ds) => R (.bl (f ds.isEmpty)) M
    | _ => False) := id rfl
theorem sndO_eqNO {G : Gx} {f : Bool → Bool} : SndO G (rEqN f) (oEqNO f) := fun d e M R H x y Q o i1 i2 h k => by
  unfold oEqNO at h
  split at h
  · rename_i a
    split at h
    · rename_i ds q
      unfold Is at i1 i2
      obtain ⟨b, vs, ey, _, hb, hl2⟩ := i2
      have l2 := hl2.len
      have ev : vs = [] := by cases vs with
        | nil => rfl
        | cons _ _ => simp at l2
      subst ev
      obtain ⟨_, us, ha, hl⟩ := o a _ q
      have l1 := hl.len
      refine ⟨a, b, us, i1.1, ey, ha, hb, k _ M _ H o is_bl Ext.refl ?_⟩
      have e : us.isEmpty = ds.isEmpty := by
        cases us <;> cases ds <;> simp at l1 ⊢
      rw [e]
      exact h
    · exact h.elim
  · exact h.elim
theorem c_eqNO {X : Cx} {C : Addr} {k : Nat} (hr : Room k X.A) : CmpQ X C .Eq (oEqNO id) := ⟨_, op_eqNl (by have := hr.units; omega), sndO_eqNO⟩
theorem c_neNO {X : Cx} {C : Addr} {k : Nat} (hr : Room k X.A) : CmpQ X C .NotEq (oEqNO Bool.not) := ⟨_, op_neNl (by have := hr.units; omega), sndO_eqNO⟩
/-! ### a bool: is False, is not False -/
def oIsF (f : Bool → Bool) : DO := fun d e M R => match d, e with
  | .bl a, .bl false => R (.bl (f (!a))) M
  | _, _ => False
theorem f_isF {f : Bool → Bool} {a : Bool} {M : Mem} {R : DR} : oIsF f (.bl a) (.bl false) M R = R (.bl (f (!a))) M := id rfl
def rIsF (f : Bool → Bool) : R2 := fun x y H Q => ∃ a, x = .bl a ∧ y = .bl false ∧ Q (.bl (f (!a))) H
section
variable {X : Cx} {C : Addr}
theorem op_isF : OpR X (compareOp .Is) (rIsF id) := by
  intro pins s σ H x y v u Q I rx ry h
  obtain ⟨a, rfl, rfl, q⟩ := h
  cases rx
  cases ry
  cases a
  · exact wpAny_of_eq (rfl : compareOp .Is (.bool false) (.bool false) = pure (.bool true)) ⟨.bl _, H, I, rfl, q⟩
  · exact wpAny_of_eq (rfl : compareOp .Is (.bool true) (.bool false) = pure (.bool false)) ⟨.bl _, H, I, rfl, q⟩
theorem op_isnF : OpR X (compareOp .IsNot) (rIsF Bool.not) := by
  intro pins s σ H x y v u Q I rx ry h
  obtain ⟨a, rfl, rfl, q⟩ := h
  cases rx
  cases ry
  cases a
  · exact wpAny_of_eq (rfl : compareOp .IsNot (.bool false) (.bool false) = pure (.bool false)) ⟨.bl _, H, I, rfl, q⟩
  · exact wpAny_of_eq (rfl : compareOp .IsNot (.bool true) (.bool false) = pure (.bool true)) ⟨.bl _, H, I, rfl, q⟩
theorem sndO_isF {G : Gx} {f : Bool → Bool} : SndO G (rIsF f) (oIsF f) := fun d e M R H x y Q o i1 i2 h k => by
  unfold oIsF at h
  split at h
  · unfold Is at i1 i2
    exact ⟨_, i1, i2, k _ M _ H o is_bl Ext.refl h⟩
  · exact h.elim
theorem c_isF : CmpQ X C .Is (oIsF id) := ⟨_, op_isF, sndO_isF⟩
theorem c_isnF : CmpQ X C .IsNot (oIsF Bool.not) := ⟨_, op_isnF, sndO_isF⟩
end
end Dl
namespace Dl
open PySem L2 Builtin Builtin.List
/-! ### the repr of containers that hold lines: the program's own code runs within -/
structure RmU (j d : Nat) (A : Around) : Prop where
  hd : A.handled = none
  dp : A.depth + d + 3 * j + 5 < recursionLimit
  un : A.units + d + 16 * j + 200 < cLine
theorem RmU.room {j d : Nat} {A : Around} (r : RmU j d A) : Room j A := ⟨r.hd, by have := r.dp; omega, by have := r.un; omega⟩
theorem RmU.units {j d : Nat} {A : Around} (r : RmU j d A) : A.units + d < cLine := by have := r.un; omega
theorem RmU.le {j d e : Nat} {A : Around} (r : RmU j d A) (h : e ≤ d) : RmU j e A := ⟨r.hd, by have := r.dp; omega, by have := r.un; omega⟩
theorem RmU.bi {j d : Nat} {A : Around} {id : String} (r : RmU j (d + 1) A) (args : Args) (hu : (A.under (.builtin id args)).units = A.units + 1) (hw : (Code.builtin id args).weight = 1) : RmU j d (A.under (.builtin id args)) :=
  ⟨by first | exact r.hd | (simpa [Around.under] using r.hd), by have := r.dp; simp [Around.under, hw]; omega, by rw [hu]; have := r.un; omega⟩
theorem RmU.loop {j d : Nat} {A : Around} (r : RmU j (d + 1) A) (args : Args) : RmU j d (A.under (.builtin "list.__repr__.loop" args)) :=
  r.bi args (units_under_list_loop _ _) (by simp [Code.weight, isGuard_list_loop, Code.frames, Code.isCreation, Code.isCaller, Code.isFrame])
theorem RmU.tup {j d : Nat} {A : Around} (r : RmU j (d + 1) A) (args : Args) : RmU j d (A.under (.builtin "tuple.__repr__" args)) :=
  r.bi args (units_under_tuple_repr _ _) (by simp [Code.weight, isGuard_tuple_repr, Code.frames, Code.isCreation, Code.isCaller, Code.isFrame])
theorem RmU.tupU {j d : Nat} {A : Around} (r : RmU j (d + 1) A) (args : Args) : RmU j d (A.under (.builtin "tuple.__repr__.under" args)) :=
  r.bi args (units_under_tuple_repr_under _ _) (by simp [Code.weight, isGuard_tuple_repr_under, Code.frames, Code.isCreation, Code.isCaller, Code.isFrame])
theorem frames_bi {A : Around} {id : String} {args : Args} {l : Option (List Env)} (h : A.frames = l) : (A.under (.builtin id args)).frames = l := by
  first | exact h | (simpa [Around.under, Code.envs, Code.isFrame, pushEnvs] using h)
/-- what is shown of a value, whatever stands for it -/
def ReprU (X : Cx) (C : Addr) (M : Mem) (H : Hp) (j : Nat) (as : List Addr) (d : Nat) (v : V) (t : Str) : Prop :=
  ∀ (u : Value), RelV v u → ∀ (base : Nat), base + t.length ≤ sizeLine → ∀ (A : Around) (g : List Code) (E : Value → Shared → Prop) (pins : List (Addr × Obj)) (σ : St) (s : Shared) (H1 : Hp) (Q : Str → Shared → Prop),
    A.guards = some g → (∀ b ∈ as, Clear g b) → A.frames = X.A.frames → RmU j d A → Ext M M H H1 → Own ⟨X.K, C⟩ M H1 → Inv X pins σ H1 s →
    (∀ H2 s', Ext M M H1 H2 → Own ⟨X.K, C⟩ M H2 → Inv X pins σ H2 s' → Q t s') → wpAny (model X.prog X.w) A (pyReprUnder base u) Q E s
section
variable {X : Cx} {C : Addr} {M : Mem} {H : Hp} {j d : Nat} {as : List Addr} {v : V} {t : Str}
theorem ReprU.more {as' : List Addr} (h : ReprU X C M H j as d v t) (hs : ∀ b ∈ as, b ∈ as') : ReprU X C M H j as' d v t :=
  fun u r base hb A g E pins σ s H1 Q hg hc hf hr hx ho I k => h u r base hb A g E pins σ s H1 Q hg (fun b hb => hc b (hs b hb)) hf hr hx ho I k
theorem ReprU.level {d' : Nat} (h : ReprU X C M H j as d v t) (hd : d ≤ d') : ReprU X C M H j as d' v t :=
  fun u r base hb A g E pins σ s H1 Q hg hc hf hr hx ho I k => h u r base hb A g E pins σ s H1 Q hg hc hf (hr.le hd) hx ho I k
theorem ReprU.of_is (h : ∀ u, RelV v u → ReprIs X.prog X.w u t) : ReprU X C M H j as d v t :=
  fun u r base hb A g E pins σ s H1 Q _ _ _ _ _ ho I k => h u r base hb A E s Q fun tk => k H1 _ Ext.refl ho (I.tok tk)
/-- a line shows itself -/
theorem ReprU.line {k : Nat} {S : DSp} (h : UOk X.prog X.w X.K X.mg X.base C k "__repr__" 1 S) (hkj : k ≤ j) {x : D} (hl : isLn x = true) (i : Is ⟨X.K, C⟩ M H x v) (hs : S [x] M (fun e M' => e = .str t ∧ M' = M) noX) : ReprU X C M H j as d v t := by
  obtain ⟨f, fd, ps, hm, hf, F, hb⟩ := h.ex
  intro u r base hz A g E pins σ s H1 Q hg _ hfr hr hx ho I hQ
  have i1 := Is.ext hx _ _ i
  obtain ⟨a, dx, q, rfl, ha⟩ := ln_at i1 hl
  obtain rfl : u = Value.ref a := r
  obtain ⟨ox, od, J⟩ := inst_at I ha
  obtain ⟨m, Fr⟩ := inv_fr I
  have XX := I.ok.mod.kin.keeps Fr.keep
  have hsp : spD ⟨X.K, C⟩ 1 S [V.ref a] H1 (fun v H' => v = .str t ∧ Ext M M H1 H' ∧ Own ⟨X.K, C⟩ M H') E0 := ⟨[x], M, _, rfl, IsL.cons i1 IsL.nil, ho, hs, fun d' M' y H' o' i' e' h' => by
    obtain ⟨rfl, rfl⟩ := h'
    unfold Is at i'
    exact ⟨i', e', o'⟩⟩
  refine wpAny_pyReprUnder_ref (by omega) ?_
  unfold pyReprObjUnder pyReprObjBy
  refine wpAny_bind (wpAny_cRoomFor (by have := hr.un; omega) ?_)
  refine wpAny_bind (wpAny_bind (J.type.here ((PySem.W.looks_findIn XX hm).here ?_)))
  show wpAny _ _ (if (some (Value.ref f)).isNone = true then _ else _) _ _ _
  rw [if_neg (by simp)]
  have main : wpAny (model X.prog X.w) A (call (.ref f) [.ref a]) (fun w s' => ∃ u, w = .str t u ∧ Q t s') E s := by
    have b := hb s [.ref a] I.kIn (by have := F.len _ _ _ _ hsp; exact this)
    rw [List.append_nil] at b
    have e0 : Env0 X.prog X.w X.K X.mg X.base A X.stack s H1 := ⟨by rw [hfr]; exact I.ok.frames, I.ok.mod, I.bs, Nat.le_trans I.ok.bsz I.sz, I.stack, I.stkFree, I.hok, I.bare⟩
    refine wpAny_call (codeAny_mono (F.run A X.stack s H1 ⟨[.ref a], []⟩ [.ref a] [V.ref a] _ E0 (hr.room.mono hkj) e0 b (.cons rfl .nil) hsp) fun z s' hz => ?_)
    match z, hz with
    | .error u, hz => exact hz.elim
    | .ok (.ret u), hz =>
      obtain ⟨v, H', I', rv, rfl, e', o'⟩ := I.after hz
      obtain ⟨tk, rfl⟩ := rv
      exact ⟨tk, rfl, hQ H' s' e' o' I'⟩
    | .ok .next, hz => exact hz.elim
    | .ok .brk, hz => exact hz.elim
    | .ok .cont, hz => exact hz.elim
  have back : wpAny (model X.prog X.w) A (callSpecialIfBoundBy? (fun g first => match reprUnder? g, first with
    | some twin, [self] => call twin [self, rawInt base]
    | _, _ => call g (first ++ [])) (.ref a) (Str.ofString "__repr__")) (fun r s' => ∃ u, r = some (.str t u) ∧ Q t s') E s := by
    simp only [callSpecialIfBoundBy?, bindSpecialIfBound?]
    refine wpAny_holding (wpAny_bind (wpAny_bind (wpAny_bind (J.type.here ((PySem.W.looks_findIn XX hm).here ?_)))))
    refine wpAny_bind (wpAny_askSetting (wpAny_ite ?_))
    have fin : wpAny (model X.prog X.w) A (call (.ref f) ([.ref a] ++ []) >>= fun v => pure (some v)) (fun r s' => ∃ u, r = some (.str t u) ∧ Q t s') E s := wpAny_bind (wpAny_mono main (fun w s' ⟨u, e, q⟩ => wpAny_pure ⟨u, by rw [e], q⟩) fun _ _ h' => h')
    split
    · exact wpAny_bind ((PySem.W.bind_fn XX _ (beq_iff_eq.mp hf)).here (wpAny_pure (by exact fin)))
    · exact wpAny_tryCatch (wpAny_bind ((PySem.W.bind_fn XX _ (beq_iff_eq.mp hf)).here (wpAny_pure (by exact fin))))
  refine wpAny_bind (wpAny_mono back (fun r s' hr' => ?_) fun _ _ h' => h')
  obtain ⟨u, rfl, q⟩ := hr'
  exact wpAny_bind (wpAny_isInstance (T := "str") (b := true) rfl isSubtype_str_str (wpAny_pure ⟨t, u, rfl, q⟩))
/-! #### tuples -/
inductive ReprUs (X : Cx) (C : Addr) (M : Mem) (H : Hp) (j : Nat) (as : List Addr) (d : Nat) : List V → List Str → Prop
  | nil : ReprUs X C M H j as d [] []
  | cons {v : V} {t : Str} {vs : List V} {ts : List Str} : ReprU X C M H j as d v t → ReprUs X C M H j as d vs ts → ReprUs X C M H j as d (v :: vs) (t :: ts)
theorem ReprUs.length_eq : ∀ {vs : List V} {ts : List Str}, ReprUs X C M H j as d vs ts → ts.length = vs.length
  | _, _, .nil => rfl
  | _, _, .cons _ h => by simp [h.length_eq]
theorem ReprUs.more {as' : List Addr} {d' : Nat} (hs : ∀ b ∈ as, b ∈ as') (hd : d ≤ d') : ∀ {vs : List V} {ts : List Str}, ReprUs X C M H j as d vs ts → ReprUs X C M H j as' d' vs ts
  | _, _, .nil => .nil
  | _, _, .cons a h => .cons ((a.more hs).level hd) (h.more hs hd)
theorem ReprUs.item : ∀ {vs : List V} {ts : List Str}, ReprUs X C M H j as d vs ts → ∀ (i : Nat) (v : V), vs[i]? = some v → ∃ t, ts[i]? = some t ∧ ReprU X C M H j as d v t
  | _, _, .nil, _, _, e => by simp at e
  | _, _, .cons hx _, 0, _, e => by
    simp at e
    subst e
    exact ⟨_, rfl, hx⟩
  | _, _, .cons _ hl, i + 1, y, e => by
    obtain ⟨t, ht, hk⟩ := hl.item i y (by simpa using e)
    exact ⟨t, by simpa using ht, hk⟩
theorem tupFoldU {E : Value → Shared → Prop} {A : Around} {g : List Code} {pins : List (Addr × Obj)} {σ : St} (hg : A.guards = some g) (hcl : ∀ b ∈ as, Clear g b) (hf : A.frames = X.A.frames) (hr : RmU j d A) :
    ∀ (vs : List V) (us : List Value) (ts : List Str) (acc : Array Str) (n : Nat) (s : Shared) (H1 : Hp) (Q : (Array Str × Nat) → Shared → Prop), ReprUs X C M H j as d vs ts → Vals vs us → n + piled ts ≤ sizeLine → Ext M M H H1 → Own ⟨X.K, C⟩ M H1 → Inv X pins σ H1 s →
    (∀ H2 s', Ext M M H1 H2 → Own ⟨X.K, C⟩ M H2 → Inv X pins σ H2 s' → Q ⟨acc ++ ts.toArray, n + piled ts⟩ s') →
    wpAny (model X.prog X.w) A (forIn us (⟨acc, n⟩ : (Array Str × Nat)) tupBody) Q E s := by
  intro vs
  induction vs with
  | nil =>
    intro us ts acc n s H1 Q hT hv _ hx ho I h
    cases hT
    cases hv
    have h0 := h H1 s Ext.refl ho I
    simp only [List.forIn_nil]
    exact wpAny_pure (by simpa [piled] using h0)
  | cons v vs ih =>
    intro us ts acc n s H1 Q hT hv hn hx ho I h
    cases hT with
    | cons ha hl =>
      cases hv with
      | cons rv rl =>
      rename_i t ts' u us'
      rw [piled_cons] at hn
      rw [List.forIn_cons]
      refine wpAny_bind (wpAny_bind (ha u rv (n + 1) (by omega) A g E pins σ s H1 _ hg hcl hf hr hx ho I fun H2 s2 hx2 ho2 I2 => wpAny_pure ?_))
      refine ih us' ts' (acc.push t) (n + (t.length + 2)) s2 H2 Q hl rl (by omega) (hx.trans hx2) ho2 I2 fun H3 s3 hx3 ho3 I3 => ?_
      have h1 := h H3 s3 (hx2.trans hx3) ho3 I3
      have e : n + piled (t :: ts') = n + (t.length + 2) + piled ts' := by rw [piled_cons]; omega
      rw [e] at h1
      simpa using h1
theorem tupleAtU {a : Addr} {xs : List V} {ts : List Str} (hM : M a = none) (hH : H a = some (.tup xs)) (hna : a ∉ as) (hT : ReprUs X C M H j as d xs ts)
    {A : Around} {g : List Code} {pins : List (Addr × Obj)} {σ : St} {s : Shared} {H1 : Hp} {R : Result → Shared → Prop} {base : Nat} {id : String} {rest : List Value}
    (hcg : (Code.builtin id ⟨.ref a :: rest, []⟩).isGuard = true) (hcu : RmU j d (A.under (.builtin id ⟨.ref a :: rest, []⟩)))
    (hg : A.guards = some g) (hcl : ∀ b ∈ a :: as, Clear g b) (hf : A.frames = X.A.frames) (hx : Ext M M H H1) (ho : Own ⟨X.K, C⟩ M H1) (I : Inv X pins σ H1 s)
    (hR : ∀ H2 s' u, Ext M M H1 H2 → Own ⟨X.K, C⟩ M H2 → Inv X pins σ H2 s' → R (.ok (.ret (.str (tupleText ts) u))) s')
    (hsz : base + (tupleText ts).length ≤ sizeLine) :
    wpOwn (model X.prog X.w) A (.builtin id ⟨.ref a :: rest, []⟩) (Builtin.tupleReprAt base ⟨[.ref a], []⟩) (fun fin s' => match fin with | .done f => R (.ok f) s' | .again c' => c'.quiet = true ∧ codeAny (model X.prog X.w) A c' R s') (fun e s' => R (.error e) s') s := by
  have hca : Clear g a := hcl a (.head _)
  obtain ⟨its, rv, ⟨o, ha, hc, n, hd⟩, _⟩ := I.tuple (show SqT X.K H1 a xs from .inl (.inl (hx.st a _ hM hH).1))
  have hlen : ts.length = its.length := by rw [hT.length_eq]; exact rv.length
  have hp := piled_le_tupleText ts
  have hsz0 : (tupleText ts).length ≤ sizeLine := by omega
  rw [tuple_repr_tree, tupleReprUnderWay_eq]
  refine wpOwn_bind (wpOwn_stackTailAny hg (tupGuardF_off _) (tupGuardF_pos _) ?_)
  have hn : (g.any fun c => tupGuardF (.ref a) (c, default)) = false := by
    rw [List.any_eq_false]
    intro c hcm
    rw [tupGuardF_of_clear hca c hcm]
    exact Bool.false_ne_true
  rw [hn]
  refine wpOwn_of_wpAny ?_
  show wpAny _ _ (tupleReprRest base (.ref a)) _ _ s
  unfold tupleReprRest Builtin.Tuple.tupleItemsOf
  refine wpAny_bind (wpAny_bind (wpAny_seqItems ha hd (wpAny_pure ?_)))
  rw [← Array.forIn_toList]
  refine wpAny_bind (tupFoldU (guards_under_guard hcg hg) (fun b hb => (hcl b (.tail _ hb)).cons (a := a) fun e => hna (e ▸ hb)) (frames_bi hf) hcu xs its ts _ _ s H1 _ hT rv (by omega) hx ho I fun H2 s2 hx2 ho2 I2 => ?_)
  refine wpAny_bind (wpAny_mkStr (wpAny_pure ?_) (by simpa [tupleText, hlen] using hsz0))
  have h1 := hR H2 { s2 with toks := s2.toks + 1 } s2.toks hx2 ho2 (I2.tok _)
  simpa [tupleText, hlen] using h1
theorem tuple_underU {a : Addr} {xs : List V} {ts : List Str} (hM : M a = none) (hH : H a = some (.tup xs)) (hna : a ∉ as) (hT : ReprUs X C M H j as d xs ts)
    {A : Around} {g : List Code} {pins : List (Addr × Obj)} {σ : St} {s : Shared} {H1 : Hp} {E : Value → Shared → Prop} {Q : Value → Shared → Prop} {base : Nat}
    (hg : A.guards = some g) (hcl : ∀ b ∈ a :: as, Clear g b) (hf : A.frames = X.A.frames) (hr : RmU j (d + 1) A) (hx : Ext M M H H1) (ho : Own ⟨X.K, C⟩ M H1) (I : Inv X pins σ H1 s)
    (hQ : ∀ H2 s' u, Ext M M H1 H2 → Own ⟨X.K, C⟩ M H2 → Inv X pins σ H2 s' → Q (.str (tupleText ts) u) s')
    (hsz : base + (tupleText ts).length ≤ sizeLine) :
    wpAny (model X.prog X.w) A (call (.builtin "tuple.__repr__.under") [.ref a, rawInt base]) Q E s := by
  obtain ⟨its, rv, ⟨o, ha, hc, n, hd⟩, _⟩ := I.tuple (show SqT X.K H1 a xs from .inl (.inl (hx.st a _ hM hH).1))
  exact call_twin_own (F.quiet_tuple_repr_under _) F.entry_tuple_repr_under F.check_tuple_repr_under ⟨o, ha, hc⟩ F.slot_tuple_repr (F.args_tuple_repr_1 _)
    (tupleAtU (R := callEnd Q E) hM hH hna hT (isGuard_tuple_repr_under _) (hr.tupU _) hg hcl hf hx ho I hQ hsz)
theorem ReprU.tuple {a : Addr} {xs : List V} {ts : List Str} (hM : M a = none) (hH : H a = some (.tup xs)) (hna : a ∉ as) (hT : ReprUs X C M H j as d xs ts) : ReprU X C M H j (a :: as) (d + 1) (.ref a) (tupleText ts) := by
  intro u r base hb A g E pins σ s H1 Q hg hcl hf hr hx ho I hQ
  obtain rfl : u = Value.ref a := r
  obtain ⟨its, rv, ⟨o, ha, hc, n, hd⟩, _⟩ := I.tuple (show SqT X.K H1 a xs from .inl (.inl (hx.st a _ hM hH).1))
  refine wpAny_pyReprUnder_ref (by omega) ?_
  exact wpAny_pyReprObjUnder_twin (twin := "tuple.__repr__.under") ⟨o, ha, hc⟩ F.slot_tuple_repr rfl (by have := hr.un; omega)
    (tuple_underU hM hH hna hT hg hcl hf hr hx ho I (fun H2 s' u e o' I' => ⟨⟨_, _, rfl⟩, _, _, rfl, hQ H2 s' e o' I'⟩) hb)
theorem tuple_callU {a : Addr} {xs : List V} {ts : List Str} (hM : M a = none) (hH : H a = some (.tup xs)) (hna : a ∉ as) (hT : ReprUs X C M H j as d xs ts)
    {A : Around} {g : List Code} {pins : List (Addr × Obj)} {σ : St} {s : Shared} {H1 : Hp} {E : Value → Shared → Prop} {Q : Value → Shared → Prop}
    (hg : A.guards = some g) (hcl : ∀ b ∈ a :: as, Clear g b) (hf : A.frames = X.A.frames) (hr : RmU j (d + 1) A) (hx : Ext M M H H1) (ho : Own ⟨X.K, C⟩ M H1) (I : Inv X pins σ H1 s)
    (hQ : ∀ H2 s' u, Ext M M H1 H2 → Own ⟨X.K, C⟩ M H2 → Inv X pins σ H2 s' → Q (.str (tupleText ts) u) s')
    (hsz : (tupleText ts).length ≤ sizeLine) : wpAny (model X.prog X.w) A (call (.builtin "tuple.__repr__") [.ref a]) Q E s := by
  obtain ⟨its, rv, ⟨o, ha, hc, n, hd⟩, _⟩ := I.tuple (show SqT X.K H1 a xs from .inl (.inl (hx.st a _ hM hH).1))
  exact wpAny_call (codeAny_call_builtin_own (Code.quiet_builtin _ (by decide +kernel)) F.entry_tuple_repr (F.slot_tuple_repr.check _ _ _ _ _ _ _ _ ⟨o, ha, hc⟩ (F.args_tuple_repr_1 _)
    (tupleAtU (base := 0) (R := callEnd Q E) hM hH hna hT (isGuard_tuple_repr _) (hr.tup _) hg hcl hf hx ho I hQ (by omega))))
/-! #### lists -/
def pileO (acc : Array Value) (c : Nat) : Obj := { cls := .type "list", dict := none, data := .seq acc c, slots := #[] }
theorem list_loopU {a P : Addr} {xs : List V} {ts : List Str} (hM : M a = none) (hH : H a = some (.lst xs)) (hna : a ∉ as) (hT : ReprUs X C M H j as d xs ts)
    {A : Around} {g : List Code} {pins : List (Addr × Obj)} {σ : St} {base : Nat} {R : Result → Shared → Prop}
    (hg : A.guards = some g) (hcl : ∀ b ∈ as, Clear g b) (hf : A.frames = X.A.frames) (hr : RmU j (d + 1) A)
    (hP1 : X.s_0.heap.objs.size ≤ P) (hP3 : ∀ p ∈ X.pn ++ pins, p.1 ≠ P) (hPL : P ≠ X.env.locals) (hPf : P ∉ X.fs)
    (hsz : base + (listText ts).length ≤ sizeLine) :
    ∀ (k i : Nat) (s : Shared) (H1 : Hp) (acc : Array Value) (c : Nat) (done : List (Str × Tok)), xs.length - i = k → i ≤ xs.length → Ext M M H H1 → Own ⟨X.K, C⟩ M H1 → Inv X ((P, pileO acc c) :: pins) σ H1 s →
    acc.toList = strValues done → done.map (·.1) = ts.take i →
    (∀ H2 s' u, Ext M M H1 H2 → Own ⟨X.K, C⟩ M H2 → Inv X pins σ H2 s' → R (.ok (.ret (.str (listText ts) u))) s') →
    codeAny (model X.prog X.w) A (.builtin "list.__repr__.loop" ⟨[.ref a, rawInt i, .ref P, rawInt ((base + piled (ts.take i) : Nat) : Int)], []⟩) R s := by
  have hlen := hT.length_eq
  have hX : (listText ts).length = (textFrom 0 "[" ts).length + 1 := by
    show (textFrom 0 "[" ts ++ "]").length = _
    rw [strLen_append]; rfl
  have hL := textFrom_len ts 0 "["
  have hsz1 : xs.length ≤ sizeLine := by
    have h1 := hL.1
    rw [if_neg (Nat.lt_irrefl 0)] at h1
    omega
  have hsz2 : ∀ t ∈ ts, t.length ≤ sizeLine := fun t ht => by
    have h2 := hL.2.1 t ht
    omega
  have hsz3 : (listText ts).length ≤ sizeLine := by omega
  have hp3 := piled_le_listText ts
  have unpin : ∀ {acc c s H1}, Inv X ((P, pileO acc c) :: pins) σ H1 s → Inv X pins σ H1 s := fun I => I.pins_of fun p hp => I.pin p (List.mem_append_right _ (List.mem_cons_of_mem _ hp))
  have atP : ∀ {acc c s H1}, Inv X ((P, pileO acc c) :: pins) σ H1 s → s.heap.get? P = some (pileO acc c) ∧ H1 P = none := fun I => by
    have := I.pin (P, _) (List.mem_append_right _ List.mem_cons_self)
    exact ⟨this.1, this.2.1⟩
  intro k
  induction k with
  | zero =>
    intro i s H1 acc c done hk hi hx ho I hacc hdone hR
    have hin : i = xs.length := by omega
    obtain ⟨its, rv, ⟨o, n, ha, hc, _, hd⟩, _⟩ := I.list (show SqL X.K H1 a xs from .inl (.inl (hx.st a _ hM hH).1))
    have il : its.length = xs.length := rv.length.symm
    refine codeAny_builtin F.entry_list_repr_loop ?_
    show wpAny _ _ («list.__repr__.loop» ⟨[.ref a, .int i 0, .ref P, .int ((base + piled (ts.take i) : Nat) : Int) 0], []⟩) _ _ s
    rw [repr_loop_tree]
    refine wpAny_bind (wpAny_listItems ha hd ?_)
    have hnone : its.toArray[(i : Int).toNat]? = none := by simp [hin, il]
    simp only [hnone]
    unfold reprEnd
    refine wpAny_bind (wpAny_listItems (atP I).1 rfl ?_)
    rw [hacc, repr_fold]
    refine wpAny_bind (wpAny_pure ?_)
    have hall : done.map (·.1) = ts := by rw [hdone, hin, ← hlen, List.take_length]
    rw [hall]
    refine wpAny_bind (wpAny_mkStr (wpAny_pure ?_) hsz3)
    exact hR H1 _ _ Ext.refl ho ((unpin I).tok _)
  | succ k ih =>
    intro i s H1 acc c done hk hi hx ho I hacc hdone hR
    have hlt : i < xs.length := by omega
    obtain ⟨its, rv, ⟨o, n, ha, hc, _, hd⟩, _⟩ := I.list (show SqL X.K H1 a xs from .inl (.inl (hx.st a _ hM hH).1))
    have il : its.length = xs.length := rv.length.symm
    obtain ⟨t, ht, hrep⟩ := hT.item i xs[i] (by simp [hlt])
    have hp1 := piled_take_succ ht
    have hp2 := piled_take_le ts (i + 1)
    obtain ⟨u, hu, rvi⟩ := rv.get (i := i) (x := xs[i]) (by simp [hlt])
    refine codeAny_builtin F.entry_list_repr_loop ?_
    show wpAny _ _ («list.__repr__.loop» ⟨[.ref a, .int i 0, .ref P, .int ((base + piled (ts.take i) : Nat) : Int) 0], []⟩) _ _ s
    rw [repr_loop_tree]
    refine wpAny_bind (wpAny_listItems ha hd ?_)
    have hsome : its.toArray[(i : Int).toNat]? = some u := by rw [Int.toNat_natCast, List.getElem?_toArray]; exact hu
    simp only [hsome]
    rw [Int.toNat_natCast]
    refine wpAny_bind (wpAny_holding (hrep u rvi (base + piled (ts.take i) + 1) (by omega) _ _ _ _ _ s H1 _ (guards_under_guard (isGuard_list_loop _) hg) (fun b hb => (hcl b hb).cons (a := a) fun e => hna (e ▸ hb)) (frames_bi hf) (hr.loop _) hx ho I fun H2 s2 hx2 ho2 I2 => ?_))
    refine wpAny_bind (wpAny_mkStr ?_ (hsz2 t (List.mem_of_getElem? ht)))
    refine wpAny_bind ?_
    show wpAny _ _ (updateSeq P _) _ _ _
    have hasz : acc.size ≤ sizeLine := by
      have e1 : acc.toList.length = acc.size := by simp
      have e2 : (strValues done).length = done.length := by simp [strValues]
      have e3 : done.length = (ts.take i).length := by rw [← hdone, List.length_map]
      have e4 : (ts.take i).length ≤ i := by rw [List.length_take]; omega
      rw [hacc] at e1; omega
    obtain ⟨gP, nP⟩ := atP I2
    refine wpAny_updateSeq gP rfl (wpAny_pure ⟨F.quiet_list_repr_loop _, ?_⟩) hasz
    have e1 : ((i : Int) + 1) = ((i + 1 : Nat) : Int) := by omega
    have e2 : base + piled (ts.take i) + (t.length + 2) = base + piled (ts.take (i + 1)) := by omega
    rw [e1, e2]
    have cP : ∀ x c, X.env.cells.lookup x = some c → c ≠ P := fun x c' e z => by
      obtain ⟨v', o', ho', hd'⟩ := I2.cell x c' e
      rw [z, gP] at ho'
      cases ho'
      cases hd'
    obtain ⟨c', hc'⟩ : ∃ c', Obj.mapSeq (fun x => x.push (.str t s2.toks)) (pileO acc c) = pileO (acc.push (.str t s2.toks)) c' := ⟨_, rfl⟩
    refine ih (i + 1) _ H2 (acc.push (.str t s2.toks)) c' (done ++ [(t, s2.toks)]) (by omega) hlt (hx.trans hx2) ho2 (((unpin I2).turned (it := P) (t' := s2.toks + 1) (fun b o' hb e => (Heap.get?_update_other _ _ (fun h : P = b => hb h.symm)).trans e) nP hPL (.inr hP1) cP hP3).pins_of fun p hp => ?_) (by simp [hacc, strValues]) (by simp [List.take_add_one, ht, hdone]) fun H3 s3 u' hx3 ho3 I3 => hR H3 s3 u' (hx2.trans hx3) ho3 I3
    rcases List.mem_cons.mp hp with rfl | hp
    · exact ⟨(Heap.get?_update_self _ gP (by rw [hc']; rfl)).trans (congrArg some hc'), nP, hPL, hPf, fun v' z => by cases z⟩
    · obtain ⟨z1, z2, z3, z4, z5⟩ := I2.pin p (List.mem_append_right _ (List.mem_cons_of_mem _ hp))
      exact ⟨(Heap.get?_update_other _ _ (fun h : P = p.1 => hP3 p (List.mem_append_right _ hp) h.symm)).trans z1, z2, z3, z4, z5⟩
theorem listAtU {a : Addr} {v0 : V} {l : List V} {ts : List Str} (hM : M a = none) (hH : H a = some (.lst (v0 :: l))) (hna : a ∉ as) (hT : ReprUs X C M H j as d (v0 :: l) ts)
    {A : Around} {g : List Code} {pins : List (Addr × Obj)} {σ : St} {s : Shared} {H1 : Hp} {R : Result → Shared → Prop} {base : Nat}
    (hg : A.guards = some g) (hcl : ∀ b ∈ a :: as, Clear g b) (hf : A.frames = X.A.frames) (hr : RmU j (d + 1) A) (hx : Ext M M H H1) (ho : Own ⟨X.K, C⟩ M H1) (I : Inv X pins σ H1 s)
    (hR : ∀ H2 s' u, Ext M M H1 H2 → Own ⟨X.K, C⟩ M H2 → Inv X pins σ H2 s' → R (.ok (.ret (.str (listText ts) u))) s')
    (hsz : base + (listText ts).length ≤ sizeLine) :
    wpAny (model X.prog X.w) A.in1 (Builtin.listReprAt base ⟨[.ref a], []⟩) (fun fin s' => match fin with | .done f => R (.ok f) s' | .again c' => c'.quiet = true ∧ codeAny (model X.prog X.w) A c' R s') (fun e s' => R (.error e) s') s := by
  have hca : Clear g a := hcl a (.head _)
  obtain ⟨its, rv, ⟨o, n, ha, hc, _, hd⟩, _⟩ := I.list (show SqL X.K H1 a (v0 :: l) from .inl (.inl (hx.st a _ hM hH).1))
  cases rv with
  | cons r0 rl =>
  rename_i u0 us
  refine wpAny_list_repr_head (A := A.in1) hg (fun v rest kw hm => listSameRef_of_ne (hca _ _ _ _ hm)) ha hd ?_
  refine wpAny_bind (m := newList []) (wpAny_newObj_type ?_)
  refine wpAny_pure ⟨F.quiet_list_repr_loop _, ?_⟩
  have keep : ∀ b u, s.heap.get? b = some u → (s.heap.push (pileO #[] 0)).get? b = some u := fun b u e => Heap.get?_push_of_some _ e
  have lt : ∀ {b o}, s.heap.get? b = some o → b ≠ s.heap.objs.size := fun e => Nat.ne_of_lt (Heap.lt_size e)
  have I1 : Inv X pins σ H1 { s with heap := s.heap.push (pileO #[] 0) } := I.kept (t' := s.toks) keep
  have hPL : s.heap.objs.size ≠ X.env.locals := Nat.ne_of_gt I.lt
  have hPf : s.heap.objs.size ∉ X.fs := I.nofs (Nat.le_refl _)
  refine list_loopU (P := s.heap.objs.size) (pins := pins) (σ := σ) hM hH hna hT hg (fun b hb => hcl b (.tail _ hb)) hf hr I.sz (fun p hp => lt (I.pin p hp).1) hPL hPf hsz _ 0 _ H1 #[] 0 [] rfl (Nat.zero_le _) hx ho (I1.pins_of fun p hp => ?_) rfl (by simp) hR
  rcases List.mem_cons.mp hp with rfl | hp
  · exact ⟨Heap.get?_push_size _ rfl, I.hok.fresh (Nat.le_refl _), hPL, hPf, fun v' z => by cases z⟩
  · exact I1.pin p (List.mem_append_right _ hp)
theorem list_underU {a : Addr} {v0 : V} {l : List V} {ts : List Str} (hM : M a = none) (hH : H a = some (.lst (v0 :: l))) (hna : a ∉ as) (hT : ReprUs X C M H j as d (v0 :: l) ts)
    {A : Around} {g : List Code} {pins : List (Addr × Obj)} {σ : St} {s : Shared} {H1 : Hp} {E : Value → Shared → Prop} {Q : Value → Shared → Prop} {base : Nat}
    (hg : A.guards = some g) (hcl : ∀ b ∈ a :: as, Clear g b) (hf : A.frames = X.A.frames) (hr : RmU j (d + 1) A) (hx : Ext M M H H1) (ho : Own ⟨X.K, C⟩ M H1) (I : Inv X pins σ H1 s)
    (hQ : ∀ H2 s' u, Ext M M H1 H2 → Own ⟨X.K, C⟩ M H2 → Inv X pins σ H2 s' → Q (.str (listText ts) u) s')
    (hsz : base + (listText ts).length ≤ sizeLine) :
    wpAny (model X.prog X.w) A (call (.builtin "list.__repr__.under") [.ref a, rawInt base]) Q E s := by
  obtain ⟨its, rv, ⟨o, n, ha, hc, _, hd⟩, _⟩ := I.list (show SqL X.K H1 a (v0 :: l) from .inl (.inl (hx.st a _ hM hH).1))
  exact call_twin_plain F.plain_list_repr_under F.entry_list_repr_under F.check_list_repr_under ⟨o, ha, hc⟩ F.slot_list_repr.toG (F.args_list_repr_1 _)
    (listAtU (R := callEnd Q E) hM hH hna hT hg hcl hf hr hx ho I hQ hsz)
theorem ReprU.list {a : Addr} {v0 : V} {l : List V} {ts : List Str} (hM : M a = none) (hH : H a = some (.lst (v0 :: l))) (hna : a ∉ as) (hT : ReprUs X C M H j as d (v0 :: l) ts) : ReprU X C M H j (a :: as) (d + 1) (.ref a) (listText ts) := by
  intro u r base hb A g E pins σ s H1 Q hg hcl hf hr hx ho I hQ
  obtain rfl : u = Value.ref a := r
  obtain ⟨its, rv, ⟨o, n, ha, hc, _, hd⟩, _⟩ := I.list (show SqL X.K H1 a (v0 :: l) from .inl (.inl (hx.st a _ hM hH).1))
  refine wpAny_pyReprUnder_ref (by omega) ?_
  exact wpAny_pyReprObjUnder_twin (twin := "list.__repr__.under") ⟨o, ha, hc⟩ F.slot_list_repr.toG rfl (by have := hr.un; omega)
    (list_underU hM hH hna hT hg hcl hf hr hx ho I (fun H2 s' u e o' I' => ⟨⟨_, _, rfl⟩, _, _, rfl, hQ H2 s' e o' I'⟩) hb)
theorem ReprU.listEmpty {a : Addr} (hM : M a = none) (hH : H a = some (.lst [])) : ReprU X C M H j as (d + 1) (.ref a) "[]" := by
  intro u r base hb A g E pins σ s H1 Q hg hcl hf hr hx ho I hQ
  obtain rfl : u = Value.ref a := r
  obtain ⟨its, rv, ⟨o, n, ha, hc, _, hd⟩, _⟩ := I.list (show SqL X.K H1 a [] from .inl (.inl (hx.st a _ hM hH).1))
  cases rv
  exact wpAny_pyReprUnder_ref (by omega) (wpAny_pyReprObjUnder_list_empty ⟨o, ha, hc⟩ (by have := hr.un; omega) ha hd ⟨_, _, rfl, hQ H1 _ Ext.refl ho (I.tok _)⟩)
theorem list_callU {a : Addr} {v0 : V} {l : List V} {ts : List Str} (hM : M a = none) (hH : H a = some (.lst (v0 :: l))) (hna : a ∉ as) (hT : ReprUs X C M H j as d (v0 :: l) ts)
    {A : Around} {g : List Code} {pins : List (Addr × Obj)} {σ : St} {s : Shared} {H1 : Hp} {E : Value → Shared → Prop} {Q : Value → Shared → Prop}
    (hg : A.guards = some g) (hcl : ∀ b ∈ a :: as, Clear g b) (hf : A.frames = X.A.frames) (hr : RmU j (d + 1) A) (hx : Ext M M H H1) (ho : Own ⟨X.K, C⟩ M H1) (I : Inv X pins σ H1 s)
    (hQ : ∀ H2 s' u, Ext M M H1 H2 → Own ⟨X.K, C⟩ M H2 → Inv X pins σ H2 s' → Q (.str (listText ts) u) s')
    (hsz : (listText ts).length ≤ sizeLine) : wpAny (model X.prog X.w) A (call (.builtin "list.__repr__") [.ref a]) Q E s := by
  obtain ⟨its, rv, ⟨o, n, ha, hc, _, hd⟩, _⟩ := I.list (show SqL X.K H1 a (v0 :: l) from .inl (.inl (hx.st a _ hM hH).1))
  exact wpAny_call (codeAny_call_builtin F.slot_list_repr.plain F.entry_list_repr (F.slot_list_repr.check _ _ _ _ _ _ _ _ ⟨o, ha, hc⟩ (F.args_list_repr_1 _)
    (listAtU (base := 0) (R := callEnd Q E) hM hH hna hT hg hcl hf hr hx ho I hQ (by omega))))
end
end Dl
namespace Dl
open PySem L2 Builtin Builtin.List
mutual
/-- the kinds that are shown here -/
def okX : D → Bool
  | .non => true
  | .bl _ => true
  | .int i => decide (i.natAbs.log2 < 1920)
  | .str _ => true
  | .tup ds => okXL ds
  | .lst ds => okXL ds
  | .ln _ _ _ => true
  | _ => false
def okXL : List D → Bool
  | [] => true
  | d :: ds => okX d && okXL ds
end
mutual
def depX : D → Nat
  | .tup ds => depXL ds + 1
  | .lst ds => depXL ds + 1
  | _ => 0
def depXL : List D → Nat
  | [] => 0
  | d :: ds => max (depX d) (depXL ds)
end
mutual
/-- the lines within -/
def lnsX : D → List (Int × Int × Int)
  | .tup ds => lnsXL ds
  | .lst ds => lnsXL ds
  | .ln t p o => [(t, p, o)]
  | _ => []
def lnsXL : List D → List (Int × Int × Int)
  | [] => []
  | d :: ds => lnsX d ++ lnsXL ds
end
mutual
/-- the text, where lines show as txt says -/
def shX (txt : Int × Int × Int → Str) : D → Str
  | .non => "None"
  | .bl b => if b then "True" else "False"
  | .int i => toString i
  | .str x => reprText x
  | .tup ds => tupleText (shXL txt ds)
  | .lst ds => listText (shXL txt ds)
  | .ln t p o => txt (t, p, o)
  | _ => ""
def shXL (txt : Int × Int × Int → Str) : List D → List Str
  | [] => []
  | d :: ds => shX txt d :: shXL txt ds
end
section
variable {G : Gx} {M : Mem} {H : Hp}
mutual
theorem dep_det : ∀ (d e : D) (v : V), okX d = true → okX e = true → Is G M H d v → Is G M H e v → depX d = depX e
  | .tup ds, e, v, hd, he, i, k => by
    unfold Is at i
    obtain ⟨a, xs, rfl, m, h, l⟩ := i
    cases e with
    | tup es =>
      unfold Is at k
      obtain ⟨a', xs', ea, _, h', l'⟩ := k
      cases ea
      rw [h] at h'
      cases h'
      unfold depX
      rw [depL_det ds es xs (by simpa only [okX] using hd) (by simpa only [okX] using he) l l']
    | lst es =>
      unfold Is at k
      obtain ⟨a', xs', ea, _, h', l'⟩ := k
      cases ea
      rw [h] at h'
      cases h'
    | ln t p o =>
      unfold Is at k
      obtain ⟨a', _, _, ea, _, h', _⟩ := k
      cases ea
      rw [h] at h'
      cases h'
    | non => unfold Is at k; cases k
    | bl _ => unfold Is at k; cases k
    | int _ => unfold Is at k; cases k
    | str _ => unfold Is at k; cases k
    | _ => cases he
  | .lst ds, e, v, hd, he, i, k => by
    unfold Is at i
    obtain ⟨a, xs, rfl, m, h, l⟩ := i
    cases e with
    | lst es =>
      unfold Is at k
      obtain ⟨a', xs', ea, _, h', l'⟩ := k
      cases ea
      rw [h] at h'
      cases h'
      unfold depX
      rw [depL_det ds es xs (by simpa only [okX] using hd) (by simpa only [okX] using he) l l']
    | tup es =>
      unfold Is at k
      obtain ⟨a', xs', ea, _, h', l'⟩ := k
      cases ea
      rw [h] at h'
      cases h'
    | ln t p o =>
      unfold Is at k
      obtain ⟨a', _, _, ea, _, h', _⟩ := k
      cases ea
      rw [h] at h'
      cases h'
    | non => unfold Is at k; cases k
    | bl _ => unfold Is at k; cases k
    | int _ => unfold Is at k; cases k
    | str _ => unfold Is at k; cases k
    | _ => cases he
  | .ln t p o, e, v, hd, he, i, k => by
    unfold Is at i
    obtain ⟨a, dx, q, rfl, m, h, _⟩ := i
    cases e with
    | tup es =>
      unfold Is at k
      obtain ⟨a', xs', ea, _, h', l'⟩ := k
      cases ea
      rw [h] at h'
      cases h'
    | lst es =>
      unfold Is at k
      obtain ⟨a', xs', ea, _, h', l'⟩ := k
      cases ea
      rw [h] at h'
      cases h'
    | _ => rfl
  | .non, e, v, hd, he, i, k => by
    unfold Is at i
    subst i
    cases e with
    | tup es => unfold Is at k; obtain ⟨_, _, ea, _⟩ := k; cases ea
    | lst es => unfold Is at k; obtain ⟨_, _, ea, _⟩ := k; cases ea
    | _ => rfl
  | .bl b, e, v, hd, he, i, k => by
    unfold Is at i
    subst i
    cases e with
    | tup es => unfold Is at k; obtain ⟨_, _, ea, _⟩ := k; cases ea
    | lst es => unfold Is at k; obtain ⟨_, _, ea, _⟩ := k; cases ea
    | _ => rfl
  | .int n, e, v, hd, he, i, k => by
    unfold Is at i
    subst i
    cases e with
    | tup es => unfold Is at k; obtain ⟨_, _, ea, _⟩ := k; cases ea
    | lst es => unfold Is at k; obtain ⟨_, _, ea, _⟩ := k; cases ea
    | _ => rfl
  | .str x, e, v, hd, he, i, k => by
    unfold Is at i
    subst i
    cases e with
    | tup es => unfold Is at k; obtain ⟨_, _, ea, _⟩ := k; cases ea
    | lst es => unfold Is at k; obtain ⟨_, _, ea, _⟩ := k; cases ea
    | _ => rfl
  | .own _, _, _, hd, _, _, _ => by cases hd
  | .scr _, _, _, hd, _, _, _ => by cases hd
  | .exn _ _, _, _, hd, _, _, _ => by cases hd
  | .exn0 _, _, _, hd, _, _, _ => by cases hd
  | .dct _ _, _, _, hd, _, _, _ => by cases hd
  | .cls, _, _, hd, _, _, _ => by cases hd
theorem depL_det : ∀ (ds es : List D) (vs : List V), okXL ds = true → okXL es = true → IsL G M H ds vs → IsL G M H es vs → depXL ds = depXL es
  | [], es, vs, _, _, i, k => by
    cases vs with
    | cons _ _ => unfold IsL at i; exact i.elim
    | nil =>
      cases es with
      | nil => rfl
      | cons _ _ => unfold IsL at k; exact k.elim
  | d :: ds, es, vs, hd, he, i, k => by
    cases vs with
    | nil => unfold IsL at i; exact i.elim
    | cons v vs =>
      cases es with
      | nil => unfold IsL at k; exact k.elim
      | cons e es =>
        unfold IsL at i k
        simp only [okXL, Bool.and_eq_true] at hd he
        unfold depXL
        rw [dep_det d e v hd.1 he.1 i.1 k.1, depL_det ds es vs hd.2 he.2 i.2 k.2]
end
/-- the containers that are met -/
def AtM (G : Gx) (M : Mem) (H : Hp) (n : Nat) (bs : List Addr) : Prop := ∀ b ∈ bs, ∃ e, okX e = true ∧ Is G M H e (.ref b) ∧ depX e ≤ n
theorem AtM.not {n : Nat} {bs : List Addr} {a : Addr} {d : D} (h : AtM G M H n bs) (hd : okX d = true) (i : Is G M H d (.ref a)) (lt : n < depX d) : a ∉ bs := fun hm => by
  obtain ⟨e, he, k, l⟩ := h a hm
  have := dep_det d e _ hd he i k
  omega
end
section
variable {X : Cx} {C : Addr} {M : Mem} {H : Hp} {j : Nat} {txt : Int × Int × Int → Str}
theorem shXL_mem {ts : List D} {d : D} (h : d ∈ ts) : shX txt d ∈ shXL txt ts := by
  induction ts with
  | nil => cases h
  | cons e r ih =>
    unfold shXL
    rcases List.mem_cons.mp h with rfl | h
    · exact List.mem_cons_self
    · exact List.mem_cons_of_mem _ (ih h)
mutual
theorem reprU_of {k : Nat} {S : DSp} (h : UOk X.prog X.w X.K X.mg X.base C k "__repr__" 1 S) (hkj : k ≤ j) : ∀ (d : D) (v : V), okX d = true → Is ⟨X.K, C⟩ M H d v → (∀ x ∈ lnsX d, S [.ln x.1 x.2.1 x.2.2] M (fun e M' => e = .str (txt x) ∧ M' = M) noX) → (shX txt d).length ≤ sizeLine →
    ∃ bs, AtM ⟨X.K, C⟩ M H (depX d) bs ∧ ReprU X C M H j bs (depX d) v (shX txt d)
  | .non, v, _, i, _, _ => ⟨[], (fun _ h => nomatch h), by unfold Is at i; subst i; simp only [shX]; exact .of_is fun u r => by cases r; exact ReprIs.none⟩
  | .bl b, v, _, i, _, _ => ⟨[], (fun _ h => nomatch h), by unfold Is at i; subst i; simp only [shX]; exact .of_is fun u r => by cases r; exact ReprIs.bool b⟩
  | .int n, v, o, i, _, _ => ⟨[], (fun _ h => nomatch h), by unfold Is at i; subst i; simp only [shX]; exact .of_is fun u r => by obtain ⟨t, rfl⟩ := r; exact ReprIs.int t (by simpa [okX] using o)⟩
  | .str x, v, _, i, _, z => ⟨[], (fun _ h => nomatch h), by unfold Is at i; subst i; simp only [shX] at z ⊢; exact .of_is fun u r => by obtain ⟨t, rfl⟩ := r; exact ReprIs.str x t z⟩
  | .ln t p o, v, _, i, hs, _ => ⟨[], (fun _ h => nomatch h), by simp only [shX]; exact ReprU.line h hkj (x := .ln t p o) rfl i (hs (t, p, o) (by simp [lnsX]))⟩
  | .tup ds, v, o, i, hs, z => by
    have i0 := i
    unfold Is at i
    obtain ⟨a, xs, rfl, m, ha, il⟩ := i
    have z' : (tupleText (shXL txt ds)).length ≤ sizeLine := by simpa only [shX] using z
    obtain ⟨bs, hb, hT⟩ := reprUs_of h hkj ds xs (by simpa only [okX] using o) il (by simpa only [lnsX] using hs) (fun t ht => Nat.le_trans (tupleText_mem_le ht) z')
    have dd : depX (.tup ds) = depXL ds + 1 := by simp only [depX]
    have na : a ∉ bs := hb.not o i0 (by omega)
    refine ⟨a :: bs, fun b hm => ?_, ?_⟩
    · rcases List.mem_cons.mp hm with rfl | hm
      · exact ⟨_, o, i0, Nat.le_refl _⟩
      · obtain ⟨e, q1, q2, q3⟩ := hb b hm
        exact ⟨e, q1, q2, by omega⟩
    · rw [dd]
      simp only [shX]
      exact ReprU.tuple m ha na hT
  | .lst ds, v, o, i, hs, z => by
    have i0 := i
    unfold Is at i
    obtain ⟨a, xs, rfl, m, ha, il⟩ := i
    have z' : (listText (shXL txt ds)).length ≤ sizeLine := by simpa only [shX] using z
    obtain ⟨bs, hb, hT⟩ := reprUs_of h hkj ds xs (by simpa only [okX] using o) il (by simpa only [lnsX] using hs) (fun t ht => Nat.le_trans (listText_mem_le ht) z')
    have dd : depX (.lst ds) = depXL ds + 1 := by simp only [depX]
    have na : a ∉ bs := hb.not o i0 (by omega)
    refine ⟨a :: bs, fun b hm => ?_, ?_⟩
    · rcases List.mem_cons.mp hm with rfl | hm
      · exact ⟨_, o, i0, Nat.le_refl _⟩
      · obtain ⟨e, q1, q2, q3⟩ := hb b hm
        exact ⟨e, q1, q2, by omega⟩
    · rw [dd]
      simp only [shX]
      generalize shXL txt ds = ts at hT
      cases hT with
      | nil => rw [listText_nil]; exact ReprU.listEmpty m ha
      | cons p q => exact ReprU.list m ha na (.cons p q)
  | .own _, _, o, _, _, _ => by cases o
  | .scr _, _, o, _, _, _ => by cases o
  | .exn _ _, _, o, _, _, _ => by cases o
  | .exn0 _, _, o, _, _, _ => by cases o
  | .dct _ _, _, o, _, _, _ => by cases o
  | .cls, _, o, _, _, _ => by cases o
theorem reprUs_of {k : Nat} {S : DSp} (h : UOk X.prog X.w X.K X.mg X.base C k "__repr__" 1 S) (hkj : k ≤ j) : ∀ (ds : List D) (vs : List V), okXL ds = true → IsL ⟨X.K, C⟩ M H ds vs → (∀ x ∈ lnsXL ds, S [.ln x.1 x.2.1 x.2.2] M (fun e M' => e = .str (txt x) ∧ M' = M) noX) → (∀ t ∈ shXL txt ds, t.length ≤ sizeLine) →
    ∃ bs, AtM ⟨X.K, C⟩ M H (depXL ds) bs ∧ ReprUs X C M H j bs (depXL ds) vs (shXL txt ds)
  | [], vs, _, i, _, _ => by
    cases vs with
    | nil => exact ⟨[], (fun _ h => nomatch h), by simp only [shXL]; exact .nil⟩
    | cons _ _ => unfold IsL at i; exact i.elim
  | d :: ds, vs, o, i, hs, z => by
    cases vs with
    | nil => unfold IsL at i; exact i.elim
    | cons v vs =>
      unfold IsL at i
      simp only [okXL, Bool.and_eq_true] at o
      obtain ⟨b1, h1, k1⟩ := reprU_of h hkj d v o.1 i.1 (fun x hx => hs x (by simp only [lnsXL]; exact List.mem_append_left _ hx)) (z _ (by simp only [shXL]; exact List.mem_cons_self))
      obtain ⟨b2, h2, k2⟩ := reprUs_of h hkj ds vs o.2 i.2 (fun x hx => hs x (by simp only [lnsXL]; exact List.mem_append_right _ hx)) (fun t ht => z t (by simp only [shXL]; exact List.mem_cons_of_mem _ ht))
      refine ⟨b1 ++ b2, fun b hm => ?_, ?_⟩
      · simp only [depXL]
        rcases List.mem_append.mp hm with hm | hm
        · obtain ⟨e, q1, q2, q3⟩ := h1 b hm
          exact ⟨e, q1, q2, Nat.le_trans q3 (Nat.le_max_left _ _)⟩
        · obtain ⟨e, q1, q2, q3⟩ := h2 b hm
          exact ⟨e, q1, q2, Nat.le_trans q3 (Nat.le_max_right _ _)⟩
      · simp only [depXL, shXL]
        exact .cons ((k1.more fun b hb => List.mem_append_left _ hb).level (Nat.le_max_left _ _)) (k2.more (fun b hb => List.mem_append_right _ hb) (Nat.le_max_right _ _))
end
end
end Dl
namespace Dl
open PySem L2 Builtin Builtin.List
/-- what shows by the rules of this part -/
def conX : D → Bool
  | .tup _ => true
  | .lst (_ :: _) => true
  | .ln _ _ _ => true
  | _ => false
structure ShowX (S : DSp) (M : Mem) (d : D) (t : Str) : Prop where
  con : conX d = true
  ok : okX d = true
  dep : depX d ≤ 6
  len : t.length ≤ sizeLine
  ex : ∃ txt : Int × Int × Int → Str, t = shX txt d ∧ ∀ x ∈ lnsX d, S [.ln x.1 x.2.1 x.2.2] M (fun e M' => e = .str (txt x) ∧ M' = M) noX
def oReprX (S : DSp) : DC := fun ds M R => match ds with
  | [d] => (∃ p, ShowOk d p ∧ R (.str p.shown) M) ∨ ∃ t, ShowX S M d t ∧ R (.str t) M
  | _ => False
theorem e_oReprX (S : DSp) (d : D) (M : Mem) (R : DR) : oReprX S [d] M R = ((∃ p, ShowOk d p ∧ R (.str p.shown) M) ∨ ∃ t, ShowX S M d t ∧ R (.str t) M) := id rfl
section
variable {X : Cx} {C : Addr}
def rReprX (S : DSp) (X : Cx) (C : Addr) : List V → Hp → VK → Prop := fun xs H Q => ∃ M d v, xs = [v] ∧ Is ⟨X.K, C⟩ M H d v ∧ Own ⟨X.K, C⟩ M H ∧ ((∃ p, ShowOk d p ∧ Q (.str p.shown) H) ∨ ∃ t, ShowX S M d t ∧ ∀ H', Ext M M H H' → Own ⟨X.K, C⟩ M H' → Q (.str t) H')
theorem cr_reprX {j k : Nat} {S : DSp} (h : UOk X.prog X.w X.K X.mg X.base C k "__repr__" 1 S) (hr : Room j X.A) (hkj : k + 3 ≤ j) (hg : X.A.guards = some []) : CallR X (.builtin "repr") (rReprX S X C) := by
  intro pins s σ H xs us Q I r hh
  obtain ⟨M, d, v, rfl, i, ho, hh⟩ := hh
  rcases hh with ⟨p, sh, q⟩ | ⟨t, sh, q⟩
  · exact cr_reprD hg hr.units pins s σ H [v] us Q I r ⟨M, d, v, p, rfl, i, sh, q⟩
  obtain ⟨u, rfl, rv⟩ := vals1 r
  obtain ⟨txt, rfl, hl⟩ := sh.ex
  have rm : ∀ e, e ≤ 9 → RmU k e X.A.in1 := fun e he => ⟨hr.hd, by have := hr.dp; show X.A.depth + _ + _ + _ < _; omega, by have := hr.un; show X.A.units + 1 + _ + _ + _ < _; omega⟩
  have fin : ∀ H2 s' u, Ext M M H H2 → Own ⟨X.K, C⟩ M H2 → Inv X pins σ H2 s' → EP X pins σ Q (.str (shX txt d) u) s' := fun H2 s' u e o' I' => ⟨.str _, H2, I', ⟨u, rfl⟩, q H2 e o'⟩
  have len := sh.len
  cases d with
  | tup ds => 
    have i0 := i
    unfold Is at i
    obtain ⟨a, xs, rfl, m, ha, il⟩ := i
    obtain rfl : u = Value.ref a := rv
    have z' : (tupleText (shXL txt ds)).length ≤ sizeLine := by simpa only [shX] using len
    obtain ⟨bs, hb, hT⟩ := reprUs_of h (Nat.le_refl k) ds xs (by simpa only [okX] using sh.ok) il (by simpa only [lnsX] using hl) (fun t ht => Nat.le_trans (tupleText_mem_le ht) z')
    have dd : depX (.tup ds) = depXL ds + 1 := by simp only [depX]
    have na : a ∉ bs := hb.not sh.ok i0 (by omega)
    simp only [shX] at fin
    obtain ⟨its, rv', ⟨o, hoa, hc, n, hd⟩, _⟩ := I.tuple (show SqT X.K H a xs from .inl (.inl ha))
    exact call_repr_slot (by have := hr.un; omega) ⟨o, hoa, hc⟩ F.slot_tuple_repr (tuple_callU (A := X.A.in1) m ha na hT (g := []) hg (fun _ _ => Clear.nil _) rfl (rm (depXL ds + 1) (by have := sh.dep; omega)) Ext.refl ho I (fun H2 s' u e' o' I' => ⟨_, _, rfl, fin H2 s' u e' o' I'⟩) z')
  | lst ds =>
    have i0 := i
    unfold Is at i
    obtain ⟨a, xs, rfl, m, ha, il⟩ := i
    obtain rfl : u = Value.ref a := rv
    have z' : (listText (shXL txt ds)).length ≤ sizeLine := by simpa only [shX] using len
    obtain ⟨bs, hb, hT⟩ := reprUs_of h (Nat.le_refl k) ds xs (by simpa only [okX] using sh.ok) il (by simpa only [lnsX] using hl) (fun t ht => Nat.le_trans (listText_mem_le ht) z')
    have dd : depX (.lst ds) = depXL ds + 1 := by simp only [depX]
    have na : a ∉ bs := hb.not sh.ok i0 (by omega)
    simp only [shX] at fin
    obtain ⟨its, rv', ⟨o, n, hoa, hc, _, hd⟩, _⟩ := I.list (show SqL X.K H a xs from .inl (.inl ha))
    have dep := sh.dep
    have con := sh.con
    generalize hts : shXL txt ds = ts at hT fin z'
    cases ds with
    | nil => cases con
    | cons d0 dr =>
      cases hT with
      | nil => simp only [shXL] at hts; cases hts
      | cons p q => exact call_repr_slot (by have := hr.un; omega) ⟨o, hoa, hc⟩ F.slot_list_repr.toG (list_callU (A := X.A.in1) m ha na (.cons p q) (g := []) hg (fun _ _ => Clear.nil _) rfl (rm (depXL (d0 :: dr) + 1) (by omega)) Ext.refl ho I (fun H2 s' u e' o' I' => ⟨_, _, rfl, fin H2 s' u e' o' I'⟩) z')
  | ln t p o =>
    obtain ⟨f, fd, ps, hm, hf, F, hb⟩ := h.ex
    obtain ⟨a, dx, q', rfl, ea⟩ := ln_at i rfl
    obtain rfl : u = Value.ref a := rv
    obtain ⟨m, Fr⟩ := inv_fr I
    obtain ⟨ox, od, J⟩ := inst_at I ea
    have hsp : spD ⟨X.K, C⟩ 1 S [V.ref a] H (fun v H' => v = .str (txt (t, p, o)) ∧ Ext M M H H' ∧ Own ⟨X.K, C⟩ M H') E0 := ⟨[.ln t p o], M, _, rfl, IsL.cons i IsL.nil, ho, hl (t, p, o) (by simp [lnsX]), fun d' M' y H' o' i' e' h' => by
      obtain ⟨rfl, rfl⟩ := h'
      unfold Is at i'
      exact ⟨i', e', o'⟩⟩
    refine PySem.W.repr_K (hr.mono (by omega : 1 ≤ j)).in1.units0 Fr I.ok.mod.kin J hm hf ?_
    have b := hb s [.ref a] I.kIn (by have := F.len _ _ _ _ hsp; exact this)
    rw [List.append_nil] at b
    refine wpAny_call (codeAny_mono (F.run X.A.in1 X.stack s H ⟨[.ref a], []⟩ [.ref a] [V.ref a] _ E0 (hr.mono (by omega : k + 1 ≤ j)).in1 I.env0.in1 b (.cons rfl .nil) hsp) fun z s' hz => ?_)
    simp only [shX] at fin
    match z, hz with
    | .error u, hz => exact hz.elim
    | .ok (.ret u), hz =>
      obtain ⟨v, H', I', rv, rfl, e', o'⟩ := I.after hz
      obtain ⟨tk, rfl⟩ := rv
      exact fin H' s' tk e' o' I'
    | .ok .next, hz => exact hz.elim
    | .ok .brk, hz => exact hz.elim
    | .ok .cont, hz => exact hz.elim
  | _ => cases sh.con
theorem b_reprX {j k : Nat} {S : DSp} (h : UOk X.prog X.w X.K X.mg X.base C k "__repr__" 1 S) (hr : Room j X.A) (hkj : k + 3 ≤ j) (hg : X.A.guards = some []) : BQ X C (.builtin "repr") (oReprX S) := ⟨_, cr_reprX h hr hkj hg, fun ds M R H xs Q o i1 h k => by
  match ds, h with
  | [d], h =>
    obtain ⟨v, rfl, i⟩ := isL1 i1
    refine ⟨M, d, v, rfl, i, o, ?_⟩
    rcases h with ⟨p, sh, h⟩ | ⟨t, sh, h⟩
    · exact .inl ⟨p, sh, k _ M _ H o is_str Ext.refl h⟩
    · exact .inr ⟨t, sh, fun H' e' o' => k _ M _ H' o' is_str e' h⟩⟩
end
end Dl
namespace Dl
open PySem L2
/-! ### keyword calls of defs, without positional arguments -/
section
variable {X : Cx} {C f : Addr} {j k n : Nat} {S : DSp} {Sx : DSx} {x : Str} {p pos : Pos} {kws : List Keyword} {ks : List Str} {fd : FuncData} {ps : List Str} {sp : Sp} {CX : CxE} {E : XK} {g : List Value → List Value → List Value} {gV : List V → List V → List V} {tk : TA} {pick : List D → List D → List D}
theorem pe_callN0 (F : FnOk X.prog X.w X.K X.mg X.base CX0 k f fd ps sp) (hr : Room k X.A) (hg : Gl X x) (hm : X.mg x = some (.ref f)) (hk : PySem.W.keepIn X.K (.ref f) = true) (hb : KBn X.K fd ps 0 ks g gV)
    (hkw : PK X kws tk) (hall : (backToKw pos (keywordEach kws X.env)).all (·.1.isSome) = true := by rfl) (hks : (backToKw pos (keywordEach kws X.env)).filterMap (·.1) = ks := by rfl)
    (hdb : (x == ("__debug__" : Str)) = false := by decide)
    (hpl : ((backTo pos (starEach [] X.env)).any (·.1) || (backToKw pos (keywordEach kws X.env)).any (·.1.isNone)) = false := by rfl) :
    PE X (.Call (.Name x p) [] kws pos) (fun σ H Q => tk σ H fun zs H2 => zs.length = ks.length ∧ sp (gV [] zs) H2 Q E0) := by
  refine ⟨fun pins s σ H Q I h => ?_⟩
  refine wpAny_Call_Name_kw (ld_glob I hg hm ?_ hdb)
  refine PySem.W.callWith_KW0 (h₀ := X.base) (first := []) I.ok.mod.kin hk hall (thn (hkw.run pos pins s σ H _ I h) fun ws s2 ⟨zs, H2, I2, rz, l2, q2⟩ => ⟨I2.kIn, ?_⟩) hpl
  rw [hks]
  exact run_fnN F hr hb pass0 I2 .nil rz rfl l2 q2
theorem pe_callWN0 (F : FnOk X.prog X.w X.K X.mg X.base (CXp X.prog X.w) k f fd ps sp) (hr : Room k X.A) (hg : Gl X x) (hm : X.mg x = some (.ref f)) (hk : PySem.W.keepIn X.K (.ref f) = true) (hb : KBn X.K fd ps 0 ks g gV)
    (hkw : PK X kws tk) (hall : (backToKw pos (keywordEach kws X.env)).all (·.1.isSome) = true := by rfl) (hks : (backToKw pos (keywordEach kws X.env)).filterMap (·.1) = ks := by rfl)
    (hdb : (x == ("__debug__" : Str)) = false := by decide)
    (hpl : ((backTo pos (starEach [] X.env)).any (·.1) || (backToKw pos (keywordEach kws X.env)).any (·.1.isNone)) = false := by rfl) :
    PE X (.Call (.Name x p) [] kws pos) (fun σ H Q => tk σ H fun zs H2 => zs.length = ks.length ∧ ∃ E : XK, sp (gV [] zs) H2 Q E ∧ ∀ cls d H', E cls d H' → wX X cls d σ H') := by
  refine ⟨fun pins s σ H Q I h => wpAny_Call_Name_kw (ld_glob I hg hm ?_ hdb)⟩
  refine PySem.W.callWith_KW0 (h₀ := X.base) (first := []) I.ok.mod.kin hk hall (thn (hkw.run pos pins s σ H _ I h) fun ws s2 ⟨zs, H2, I2, rz, l2, E, hs, hW⟩ => ⟨I2.kIn, ?_⟩) hpl
  rw [hks]
  exact run_fnW (args := ⟨[], ks.zip ws⟩) F hr (hb.to s2 [] ws I2.kIn rfl (by rw [← rz.length]; exact l2)) (hb.rel .nil rz) (cx_xe I2 hW) I2 hs
theorem qck0 {vk : DA} (h : KCallOk X.prog X.w X.K X.mg X.base C k x n S 0 ks pick) (hr : Room j X.A) (hkj : k ≤ j)
    (hkw : QK X C kws vk) (hg : Gl X x := by rfl) (hall : (backToKw pos (keywordEach kws X.env)).all (·.1.isSome) = true := by rfl) (hks : (backToKw pos (keywordEach kws X.env)).filterMap (·.1) = ks := by rfl)
    (hdb : (x == ("__debug__" : Str)) = false := by decide)
    (hpl : ((backTo pos (starEach [] X.env)).any (·.1) || (backToKw pos (keywordEach kws X.env)).any (·.1.isNone)) = false := by rfl) :
    QE X C (.Call (.Name x p) [] kws pos) (vCallK n 0 ks.length S pick vNil vk) := by
  obtain ⟨f, fd, ps, g, gV, h1, h2, h3, h4, h5⟩ := h.ex
  obtain ⟨tk, pk, sk⟩ := hkw.ex
  refine ⟨_, pe_callN0 h3 (hr.mono hkj) hg h1 h2 h4 pk hall hks hdb hpl, fun γ M R σ H Q re h kk => sk γ M _ σ H _ re h fun zs M2 us H2 o2 i2 e2 h2 => ?_⟩
  obtain ⟨l1, l2, l3, hs⟩ := h2
  exact ⟨by rw [← i2.len]; exact l2, pick [] zs, M2, R, l3, h5 M2 H2 [] zs [] us IsL.nil i2, o2, hs, fun d M3 y H3 o3 i3 e3 h3 => kk d M3 y H3 o3 i3 (e2.trans e3) h3⟩
theorem qxck0 {vk : DAX} (h : KCallX X.prog X.w X.K X.mg X.base C k x n S Sx 0 ks pick) (hr : Room j X.A) (hkj : k ≤ j) (hkw : QKX X C kws vk) (hg : Gl X x := by rfl) (hall : (backToKw pos (keywordEach kws X.env)).all (·.1.isSome) = true := by rfl) (hks : (backToKw pos (keywordEach kws X.env)).filterMap (·.1) = ks := by rfl)
    (hdb : (x == ("__debug__" : Str)) = false := by decide)
    (hpl : ((backTo pos (starEach [] X.env)).any (·.1) || (backToKw pos (keywordEach kws X.env)).any (·.1.isNone)) = false := by rfl) :
    QEX X C (.Call (.Name x p) [] kws pos) (vCallKX n 0 ks.length S Sx pick (aL vNil) vk) := by
  obtain ⟨f, fd, ps, g, gV, h1, h2, h3, h4, h5⟩ := h.ex
  obtain ⟨tk, pk, sk⟩ := hkw.ex
  refine ⟨_, pe_callWN0 h3 (hr.mono hkj) hg h1 h2 h4 pk hall hks hdb hpl, fun γ M R Xd σ H Q re hv kk kx => sk γ M _ Xd σ H _ re hv (fun zs M2 us H2 o2 i2 e2 h2 => ?_) kx⟩
  obtain ⟨l1, l2, l3, hs⟩ := h2
  refine ⟨by rw [← i2.len]; exact l2, ?_⟩
  exact spU_of l3 o2 (h5 M2 H2 [] zs [] us IsL.nil i2) hs (fun d M3 y H3 o3 i3 e3 h3 => kk d M3 y H3 o3 i3 (e2.trans e3) h3) (kx.ext e2)
end
section
variable {α : Type} {a b c d e f g h : α}
theorem pk01 : pickL [0] [] [a] = [a] := id rfl
theorem pk02 : pickL [0, 1] [] [a, b] = [a, b] := id rfl
theorem pk03 : pickL [0, 1, 2] [] [a, b, c] = [a, b, c] := id rfl
theorem pk04 : pickL [0, 1, 2, 3] [] [a, b, c, d] = [a, b, c, d] := id rfl
theorem pk05 : pickL [0, 1, 2, 3, 4] [] [a, b, c, d, e] = [a, b, c, d, e] := id rfl
theorem pk06 : pickL [0, 1, 2, 3, 4, 5] [] [a, b, c, d, e, f] = [a, b, c, d, e, f] := id rfl
theorem pk07 : pickL [0, 1, 2, 3, 4, 5, 6] [] [a, b, c, d, e, f, g] = [a, b, c, d, e, f, g] := id rfl
theorem pk08 : pickL [0, 1, 2, 3, 4, 5, 6, 7] [] [a, b, c, d, e, f, g, h] = [a, b, c, d, e, f, g, h] := id rfl
end
end Dl
namespace Dl
open PySem L2
/-! ### a tuple against (), whatever it holds; slices of texts -/
def oEqNT (f : Bool → Bool) : DO := fun d e M R => match d, e with
  | .tup ds, .tup [] => R (.bl (f ds.isEmpty)) M
  | _, _ => False
theorem f_eqNt {f : Bool → Bool} {ds : List D} {M : Mem} {R : DR} : oEqNT f (.tup ds) (.tup []) M R = R (.bl (f ds.isEmpty)) M := id rfl
def rEqNT : R2 := fun x y H Q => ∃ a b xs, x = .ref a ∧ y = .ref b ∧ H a = some (.tup xs) ∧ H b = some (.tup []) ∧ Q (.bl xs.isEmpty) H
section
variable {X : Cx} {C : Addr} {a : Expr} {pos : Pos} {va : DE}
theorem op_eqNt (hu : X.A.units < cLine) : OpR X (compareOp .Eq) rEqNT := by
  intro pins s σ H x y v u Q I rx ry h
  obtain ⟨a, b, xs, rfl, rfl, ea, eb, q⟩ := h
  obtain rfl : v = Value.ref a := rx
  obtain rfl : u = Value.ref b := ry
  obtain ⟨its, ra, ya, _⟩ := I.tuple (show SqT X.K H a xs from .inl (.inl ea))
  obtain ⟨jts, rb, yb, _⟩ := I.tuple (show SqT X.K H b [] from .inl (.inl eb))
  cases rb
  have h1 := ra.length
  have e : ((List.range (min its.toArray.size ([] : List Value).toArray.size)).all (fun _ => true) && its.toArray.size == ([] : List Value).toArray.size) = xs.isEmpty := by
    cases xs with
    | nil => simp at h1; simp [h1.symm]
    | cons z zs =>
      cases its with
      | nil => cases h1
      | cons w ws => simp
  exact SeqAt.RcAt.tuples (e := fun _ => true) ya yb hu (fun j z w => absurd w (by simp)) X.prog X.w X.xe _ ⟨.bl _, H, I, by rw [e]; rfl, q⟩
theorem sndO_eqNt {G : Gx} : SndO G rEqNT (oEqNT id) := fun d e M R H x y Q o i1 i2 h k => by
  unfold oEqNT at h
  split at h
  · rename_i ds
    unfold Is at i1 i2
    obtain ⟨a, us, ex, _, ha, hl⟩ := i1
    obtain ⟨b, vs, ey, _, hb, hl2⟩ := i2
    have l1 := hl.len
    have l2 := hl2.len
    have ev : vs = [] := by cases vs with
      | nil => rfl
      | cons _ _ => simp at l2
    subst ev
    refine ⟨a, b, us, ex, ey, ha, hb, k _ M _ H o is_bl Ext.refl ?_⟩
    have e : us.isEmpty = ds.isEmpty := by
      cases us <;> cases ds <;> simp at l1 ⊢
    rw [e]
    exact h
  · exact h.elim
theorem c_eqNt {k : Nat} (hr : Room k X.A) : CmpQ X C .Eq (oEqNT id) := ⟨_, op_eqNt (by have := hr.units; omega), sndO_eqNt⟩
def vSlS (a : DE) (l h : DPt) : DE := fun γ M R => a γ M fun d M1 => l γ M1 fun lo M2 => h γ M2 fun hi M3 => match d with
  | .str z => z.length ≤ sizeLine ∧ R (.str (cutS z lo hi)) M3
  | _ => False
theorem e_vSlS (a : DE) (l h : DPt) (γ : Gm) (M : Mem) (R : DR) : vSlS a l h γ M R = (a γ M fun d M1 => l γ M1 fun lo M2 => h γ M2 fun hi M3 => match d with
  | .str z => z.length ≤ sizeLine ∧ R (.str (cutS z lo hi)) M3
  | _ => False) := id rfl
theorem q_slS {lo hi : Option Expr} {vl vh : DPt} {p2} (ha : QE X C a va) (hl : QO X C lo vl) (hh : QO X C hi vh) : QE X C (.Subscript a (.Slice lo hi none p2) pos) (vSlS va vl vh) := by
  obtain ⟨ta, pa, sa⟩ := ha.ex
  obtain ⟨tl, pl, sl⟩ := hl.ex
  obtain ⟨th, ph, sh⟩ := hh.ex
  refine ⟨_, pe_slice sl_str pa pl ph, fun γ M R σ H Q re h k => sa γ M _ σ H _ re h fun d M1 x H1 o1 i1 e1 h1 => sl γ M1 _ σ H1 _ (re.mk' e1 o1) h1 fun u M2 H2 o2 e2 h2 => sh γ M2 _ σ H2 _ (re.mk' (e1.trans e2) o2) h2 fun w M3 H3 o3 e3 h3 => ?_⟩
  cases d with
  | str z =>
    unfold Is at i1
    exact ⟨z, i1, h3.1, k _ M3 _ H3 o3 is_str ((e1.trans e2).trans e3) h3.2⟩
  | _ => exact h3.elim
end
/-! ### a word in a list of words -/
theorem f_inW2 (f : Bool → Bool) (z a b : String) (M : Mem) (R : DR) : oInDG f (.str (Str.ofString z)) (.lst [.str (Str.ofString a), .str (Str.ofString b)]) M R = R (.bl (f (decide (a = z) || decide (b = z)))) M := by
  have e : oInDG f (.str (Str.ofString z)) (.lst [.str (Str.ofString a), .str (Str.ofString b)]) M R = ((PyData.strOk (Str.ofString a) && (PyData.strOk (Str.ofString b) && true)) = true ∧ PyData.strOk (Str.ofString z) = true ∧ (0 : Nat) = 0 ∧ R (.bl (f ([Str.ofString a, Str.ofString b].any fun x => x == Str.ofString z))) M) := propext Iff.rfl
  rw [e]
  simp [word_ok, word_beq]
theorem f_inW3 (f : Bool → Bool) (z a b c : String) (M : Mem) (R : DR) : oInDG f (.str (Str.ofString z)) (.lst [.str (Str.ofString a), .str (Str.ofString b), .str (Str.ofString c)]) M R = R (.bl (f (decide (a = z) || (decide (b = z) || decide (c = z))))) M := by
  have e : oInDG f (.str (Str.ofString z)) (.lst [.str (Str.ofString a), .str (Str.ofString b), .str (Str.ofString c)]) M R = ((PyData.strOk (Str.ofString a) && (PyData.strOk (Str.ofString b) && (PyData.strOk (Str.ofString c) && true))) = true ∧ PyData.strOk (Str.ofString z) = true ∧ (0 : Nat) = 0 ∧ R (.bl (f ([Str.ofString a, Str.ofString b, Str.ofString c].any fun x => x == Str.ofString z))) M) := propext Iff.rfl
  rw [e]
  simp [word_ok, word_beq]
end Dl
namespace Dl
open PySem L2
/-! ### methods of owned objects that may raise -/
structure MOkOX (P : Program) (w : World) (K : PySem.W.Frag) (mg : Str → Option Value) (base : Heap) (C : Addr) (k : Nat) (c m : Str) (n : Nat) (S : DSp) (Sx : DSx) : Prop where
  ex : ∃ (f : Addr) (fd : FuncData) (ps : List Str), OCls K c ∧ Meth K (He.ga K c) m f ∧ m ∉ clsF c ∧ FnOk P w K mg base (CXp P w) k f fd ps (spU ⟨K, C⟩ n S Sx) ∧ Binds K fd ps []
def vObjOX (c : Str) (n : Nat) (S : DSp) (Sx : DSx) (o : DEX) (a : DAX) : DEX := fun γ M R Xd => o γ M (fun od M1 => match od with
  | .own x => (match M1 x with
    | some (.obj c' _) => c' = c ∧ a γ M1 (fun ds M2 => ds.length + 1 = n ∧ (S (.own x :: ds) M2 R noX ∨ Sx (.own x :: ds) M2 Xd)) Xd
    | _ => False)
  | _ => False) Xd
theorem e_vObjOX (c : Str) (n : Nat) (S : DSp) (Sx : DSx) (o : DEX) (a : DAX) (γ : Gm) (M : Mem) (R : DR) (Xd : DX) : vObjOX c n S Sx o a γ M R Xd = (o γ M (fun od M1 => match od with
  | .own x => (match M1 x with
    | some (.obj c' _) => c' = c ∧ a γ M1 (fun ds M2 => ds.length + 1 = n ∧ (S (.own x :: ds) M2 R noX ∨ Sx (.own x :: ds) M2 Xd)) Xd
    | _ => False)
  | _ => False) Xd) := id rfl
section
variable {X : Cx} {C : Addr} {j k n : Nat} {S : DSp} {Sx : DSx} {o e : Expr} {es : List Expr} {c m : Str} {pos apos : Pos}
theorem q_methOX {vo : DEX} {va : DAX} (h : MOkOX X.prog X.w X.K X.mg X.base C k c m n S Sx) (hr : Room j X.A) (hkj : k ≤ j) (ho : QEX X C o vo) (ha : QAX X C (e :: es) va)
    (hpe : ∀ {C' f : Addr} {fd : FuncData} {ps : List Str} {sp : Sp} {to : TE} {ta : TA}, PE X o to → Cls X.K C' → Meth X.K C' m f → FnOk X.prog X.w X.K X.mg X.base (CXp X.prog X.w) k f fd ps sp → Room k X.A → Binds X.K fd ps [] → PA X (e :: es) ta → PE X (.Call (.Attribute o m apos) (e :: es) [] pos) (tMethW X C' m sp to ta) := by exact fun h1 h2 h3 h4 h5 h6 h7 => pe_methW h1 h2 h3 h4 h5 h6 h7) :
    QEX X C (.Call (.Attribute o m apos) (e :: es) [] pos) (vObjOX c n S Sx vo va) := by
  obtain ⟨f, fd, ps, T, hm, hp, F, hb⟩ := h.ex
  obtain ⟨to, po, so⟩ := ho.ex
  obtain ⟨ta, pa, sa⟩ := ha.ex
  refine ⟨_, hpe po T.cls hm F (hr.mono hkj) hb pa, fun γ M R Xd σ H Q r h kk kx => so γ M _ Xd σ H _ r h (fun od M1 x H1 o1 i1 e1 h1 => ?_) kx⟩
  cases od with
  | own a =>
    simp only at h1
    split at h1
    · rename_i c' ds q
      obtain ⟨rfl, h1⟩ := h1
      obtain ⟨hl, dx, vs, hx, _⟩ := own_obj o1 q
      have i1' := i1
      unfold Is at i1'
      refine ⟨a, dx, _, i1'.1, hx, zip_none hp, sa γ M1 _ Xd σ H1 _ (r.mk' e1 o1) h1 (fun ds2 M2 xs H2 o2 i2 e2 h2 => ?_) (kx.ext e1)⟩
      exact spU_of (ds := .own a :: ds2) h2.1 o2 (IsL.cons (Is.ext e2 _ _ i1) i2) h2.2 (fun d3 M3 y H3 o3 i3 e3 h3 => kk d3 M3 y H3 o3 i3 ((e1.trans e2).trans e3) h3) (kx.ext (e1.trans e2))
    · exact h1.elim
  | _ => exact False.elim h1
end
/-! ### and with a star parameter -/
theorem cxNewX {P : Program} {w : World} : CXNew (CXp P w) := fun outer s H h2 p rest E e s' K sz hp h => by
  obtain ⟨a, B, H', cls, d, rfl, fl, hok, ub, na, os, ag, hE⟩ := h
  have ne : ∀ {b : Addr} {o : Obj}, s.heap.get? b = some o → b ≠ p := fun q => Nat.ne_of_lt (Nat.lt_of_lt_of_le (Heap.lt_size q) sz)
  have nH : ∀ {b : Addr} {o : HO}, H b = some o → b ≠ p := fun q z => by rw [z, hp] at q; cases q
  exact ⟨a, B, H', cls, d, rfl, fl, hok, ⟨fun b o q n f => ub.keep b o (K b o q) (by rw [upd_ne (ne q)]; exact n) f, fun b o q f => ub.slot b o (K b o q) f, fun b o q n => ub.free b o (K b o q) (by rw [upd_ne (ne q)]; exact n), fun b o q f => ub.there b o (K b o q) f, fun b xs q => ub.tups b xs (by rw [upd_ne (nH q)]; exact q), fun b o xs q => ub.frzs b o xs (by rw [upd_ne (nH q)]; exact q), fun b ps q => ub.tbls b ps (by rw [upd_ne (nH q)]; exact q)⟩, na, os, ag, hE⟩
def spVX (G : Gx) (nmax : Nat) (S : DSx) : Sp := fun vs H _ E => ∃ (d : D) (es : List D) (M : Mem) (Xd : DX), es.length ≤ nmax ∧ IsL G M H (d :: es) vs ∧ Own G M H ∧ S [d, .tup es] M Xd ∧
  ∀ xd M' cls d' H', Own G M' H' → XIs G M' H' xd cls d' → Ext M M' H H' → Xd xd M' → E cls d' H'
def spVU (G : Gx) (nmax : Nat) (S : DSp) (Sx : DSx) : Sp := fun vs H Q E => spV G nmax S vs H Q E ∨ spVX G nmax Sx vs H Q E
theorem fnr_both {P : Program} {w : World} {K : PySem.W.Frag} {mg : Str → Option Value} {base : Heap} {k j : Nat} {f : Addr} {G : Gx} {nmax : Nat} {S : DSp} {Sx : DSx} (F : FnR P w K mg base CX0 k f (spV G nmax S)) (Fx : FnR P w K mg base (CXp P w) j f (spVX G nmax Sx)) :
    FnR P w K mg base (CXp P w) (max k j) f (spVU G nmax S Sx) := fun A outer s H us vs Q E hr e0 r hs => by
  rcases hs with h | h
  · refine codeAny_mono (F A outer s H us vs Q E (hr.mono (Nat.le_max_left _ _)) e0 r h) fun z s' hz => ?_
    cases z with
    | ok fl => cases fl <;> exact hz
    | error e => exact False.elim hz
  · exact Fx A outer s H us vs Q E (hr.mono (Nat.le_max_right _ _)) e0 r h
section
variable {P : Program} {w : World} {K : PySem.W.Frag} {mg : Str → Option Value} {base : Heap} {x qual : Str} {params : Arguments} {body : List Stmt} {scope : Scope} {kws : List (Str × V)} {f : Addr} {fd : FuncData}
theorem fn_okVX {N : List Str} {pa pv : Str} {k : Nat} {C : Addr} {S : DSx} {v : DS} (n nmax : Nat) (F : FunD K x qual params body scope [] kws f fd) (SC : FnScope N [pa, pv] scope) (hz : nmax ≤ sizeLine)
    (hb : ∀ (kV doc pm : Value) (an : Option Addr) (cdv ct : Value) (u : Value) (rest : List Value), rest.length ≤ nmax → bindArgs (PySem.W.fnOf x qual params body scope .none kV doc pm an cdv ct) ⟨u :: rest, []⟩ = (newTuple rest >>= fun t => pure [(pa, u), (pv, t)]))
    (hq : ∀ (cdv : Value) (A : Around) (outer : List Env) (s : Shared) (H : Hp) (E : XK), Room k (A.deeper (PyProof.Rows.envOfC qual scope s.heap.objs.size f cdv)) → QSs (cxOf (CXp P w) P w K mg base N qual scope f cdv A outer s H E) C body v)
    (hv : ∀ ds M Xd, ds.length = 2 → S ds M Xd → v (xEnds M Xd) (st0 n ds) M) (hn : N.length = n := by rfl) : FnR P w K mg base (CXp P w) (k + 1) f (spVX ⟨K, C⟩ nmax S) := by
  subst hn
  have hpl : 2 ≤ N.length := by have := congrArg List.length SC.pre; rw [List.length_take] at this; simp at this; omega
  obtain ⟨oc, od, dV, kV, doc, pm, an, cdv, ct, osl, e, lk, hcd, hD, hK⟩ := F.ex
  rcases hD with ⟨_, e2⟩ | ⟨z, _⟩
  · subst e; subst e2
    refine FnR.imp (fn_ofV (CX := CXp P w) (sp := spX ⟨K, C⟩ 2 S) lk hcd SC hz (hb kV doc pm an cdv ct) cxNewX fun A outer s H vs Q E hr h => ?_) fun vs H Q E h => ?_
    · obtain ⟨ds, M, Xd, hl, il, ow, hs, k2⟩ := h
      obtain ⟨t, pt, st⟩ := (hq cdv A outer s H E hr).ex
      refine ⟨t, pt, st (xEnds M Xd) (st0 N.length ds) M _ H _ ⟨st0_rel il (by omega), ow⟩ ⟨fun _ _ _ _ _ _ z => z.elim, fun _ _ _ _ _ _ _ z => z.elim, fun _ _ _ _ _ _ z => z.elim, fun _ _ _ _ _ _ z => z.elim, ?_⟩ (hv ds M Xd hl hs)⟩
      intro γ M' σ H' xd cls d r i e' hf
      obtain ⟨M2, sb, dm, pu, hx⟩ := hf
      exact wX_of (takes_of rfl rfl rfl rfl) (k2 xd M2 cls d H' (r.ow.sub sb) (xis_sub sb pu i) (e'.sub sb dm) hx)
    · obtain ⟨d, es, M, Xd, hn, il, ow, hs, k2⟩ := h
      match vs, il with
      | [], il => unfold IsL at il; exact il.elim
      | v :: rest, il =>
        unfold IsL at il
        refine ⟨v, rest, rfl, by rw [← il.2.len]; exact hn, fun p hp => ?_⟩
        have x2 : Ext M M H (upd H p (.tup rest)) := Ext.new hp
        exact ⟨[d, .tup es], M, Xd, rfl, IsL.cons (Is.ext x2 _ _ il.1) (IsL.cons (new_tup ow hp il.2) IsL.nil), ow.new hp, hs, fun xd M' cls d' H' o' i' e' h' => k2 xd M' cls d' H' o' i' (x2.trans e') h'⟩
  · exact absurd rfl z
end
structure MVOkX (P : Program) (w : World) (K : PySem.W.Frag) (mg : Str → Option Value) (base : Heap) (C : Addr) (k : Nat) (c m : Str) (nmax : Nat) (S : DSp) (Sx : DSx) : Prop where
  ex : ∃ (f : Addr), OCls K c ∧ Meth K (He.ga K c) m f ∧ m ∉ clsF c ∧ FnR P w K mg base (CXp P w) k f (spVU ⟨K, C⟩ nmax S Sx)
def vObjVX (c : Str) (nmax : Nat) (S : DSp) (Sx : DSx) (o : DEX) (a : DAX) : DEX := fun γ M R Xd => o γ M (fun od M1 => match od with
  | .own x => (match M1 x with
    | some (.obj c' _) => c' = c ∧ a γ M1 (fun ds M2 => ds.length ≤ nmax ∧ (S [.own x, .tup ds] M2 R noX ∨ Sx [.own x, .tup ds] M2 Xd)) Xd
    | _ => False)
  | _ => False) Xd
theorem e_vObjVX (c : Str) (nmax : Nat) (S : DSp) (Sx : DSx) (o : DEX) (a : DAX) (γ : Gm) (M : Mem) (R : DR) (Xd : DX) : vObjVX c nmax S Sx o a γ M R Xd = (o γ M (fun od M1 => match od with
  | .own x => (match M1 x with
    | some (.obj c' _) => c' = c ∧ a γ M1 (fun ds M2 => ds.length ≤ nmax ∧ (S [.own x, .tup ds] M2 R noX ∨ Sx [.own x, .tup ds] M2 Xd)) Xd
    | _ => False)
  | _ => False) Xd) := id rfl
section
variable {X : Cx} {C : Addr} {j k nmax : Nat} {S : DSp} {Sx : DSx} {o e : Expr} {es : List Expr} {c m : Str} {pos apos : Pos} {sp : Sp} {f : Addr} {ta : TE} {t : TA}
theorem code_selfR {pins : List (Addr × Obj)} {σ : St} {H : Hp} {s : Shared} {Q : VK} {E : XK} {us : List Value} {vs : List V} (F : FnR X.prog X.w X.K X.mg X.base (CXp X.prog X.w) k f sp) (hr : Room k X.A) (r : Vals vs us)
    (I : Inv X pins σ H s) (h : sp vs H Q E) (hW : ∀ cls d H', E cls d H' → wX X cls d σ H') : codeAny (model X.prog X.w) X.A (.call (.ref f) ⟨us, []⟩) (fun r s' => match r with
      | .ok (.ret v) => EP X pins σ Q v s'
      | .ok _ => False
      | .error e => X.xe e s') s := by
  refine codeAny_mono (F X.A X.stack s H us vs Q E hr I.env0 r h) fun z s' hz => ?_
  match z, hz with
  | .error u, hz => exact cx_xe I hW u s' hz
  | .ok (.ret u), hz => exact I.after hz
  | .ok .next, hz => exact hz.elim
  | .ok .brk, hz => exact hz.elim
  | .ok .cont, hz => exact hz.elim
theorem pe_methRW {C : Addr} {pl : Sem Bool} (he : PE X o ta) (c : Cls X.K C) (hm : Meth X.K C m f) (F : FnR X.prog X.w X.K X.mg X.base (CXp X.prog X.w) k f sp) (hr : Room k X.A) (ha : PA X (e :: es) t)
    (hst : starEach (e :: es) X.env = (false, eval e X.env) :: starEach es X.env := by rfl) (hpl : (backTo pos (starEach es X.env)).any (·.1) = false := by rfl)
    (ht : eval (.Call (.Attribute o m apos) (e :: es) [] pos) X.env = (do
      let ov ← eval o X.env
      standAt apos.atName
      let (f, first) ← holding [ov] (getMethod ov m pl)
      callWith pos f first (backTo pos (starEach (e :: es) X.env)) (backToKw pos (keywordEach [] X.env))) := by rfl) :
    PE X (.Call (.Attribute o m apos) (e :: es) [] pos) (tMethW X C m sp ta t) := by
  refine ⟨fun pins s σ H Q I h => ?_⟩
  refine PySem.W.methodCall_KW (pl := pl) (thn (he.run pins s σ H _ I h) fun u s1 ⟨x, H1, I1, rx, a, dx, fs, ex, ea, l, q⟩ => ?_) ht
  subst ex
  obtain rfl : u = Value.ref a := rx
  refine getmeth_ok I1 ea c hm l ?_
  refine PySem.W.callWith_K (first := [.ref a]) (h₀ := X.base) I.ok.mod.kin hm.kp (thn (ha.run pos pins s1 σ H1 _ I1 q) fun us s2 ⟨vs, H2, I2, r, E, q2, hW⟩ => ⟨I2.kIn, ?_⟩) hst hpl
  exact wpAny_call (code_selfR (us := .ref a :: us) (vs := .ref a :: vs) F hr (.cons rfl r) I2 q2 hW)
theorem q_methVX {vo : DEX} {va : DAX} (h : MVOkX X.prog X.w X.K X.mg X.base C k c m nmax S Sx) (hr : Room j X.A) (hkj : k ≤ j) (ho : QEX X C o vo) (ha : QAX X C (e :: es) va)
    (hpe : ∀ {C' f : Addr} {sp : Sp} {to : TE} {ta : TA}, PE X o to → Cls X.K C' → Meth X.K C' m f → FnR X.prog X.w X.K X.mg X.base (CXp X.prog X.w) k f sp → Room k X.A → PA X (e :: es) ta → PE X (.Call (.Attribute o m apos) (e :: es) [] pos) (tMethW X C' m sp to ta) := by exact fun h1 h2 h3 h4 h5 h6 => pe_methRW h1 h2 h3 h4 h5 h6) :
    QEX X C (.Call (.Attribute o m apos) (e :: es) [] pos) (vObjVX c nmax S Sx vo va) := by
  obtain ⟨f, T, hm, hp, F⟩ := h.ex
  obtain ⟨to, po, so⟩ := ho.ex
  obtain ⟨ta, pa, sa⟩ := ha.ex
  refine ⟨_, hpe po T.cls hm F (hr.mono hkj) pa, fun γ M R Xd σ H Q r h kk kx => so γ M _ Xd σ H _ r h (fun od M1 x H1 o1 i1 e1 h1 => ?_) kx⟩
  cases od with
  | own a =>
    simp only at h1
    split at h1
    · rename_i c' ds q
      obtain ⟨rfl, h1⟩ := h1
      obtain ⟨hl, dx, vs, hx, _⟩ := own_obj o1 q
      have i1' := i1
      unfold Is at i1'
      refine ⟨a, dx, _, i1'.1, hx, zip_none hp, sa γ M1 _ Xd σ H1 _ (r.mk' e1 o1) h1 (fun ds2 M2 xs H2 o2 i2 e2 h2 => ?_) (kx.ext e1)⟩
      have kx2 := kx.ext (e1.trans e2)
      refine ⟨wishD X C M2 H2 Xd, ?_, fun cls d H' ⟨xd, M', o', i', e', h'⟩ => kx2 M' H' xd cls d o' i' e' h'⟩
      rcases h2.2 with hs | hs
      · exact .inl ⟨.own a, ds2, M2, R, h2.1, IsL.cons (Is.ext e2 _ _ i1) i2, o2, hs, fun d' M' y H' o' i' e' h' => kk d' M' y H' o' i' ((e1.trans e2).trans e') h'⟩
      · exact .inr ⟨.own a, ds2, M2, Xd, h2.1, IsL.cons (Is.ext e2 _ _ i1) i2, o2, hs, fun xd M' cls d H' o' i' e' h' => ⟨xd, M', o', i', e', h'⟩⟩
    · exact h1.elim
  | _ => exact False.elim h1
theorem pe_methRW0 {C : Addr} {pl : Sem Bool} (he : PE X o ta) (c : Cls X.K C) (hm : Meth X.K C m f) (F : FnR X.prog X.w X.K X.mg X.base (CXp X.prog X.w) k f sp) (hr : Room k X.A)
    (ht : eval (.Call (.Attribute o m apos) [] [] pos) X.env = (do
      let ov ← eval o X.env
      standAt apos.atName
      let (f, first) ← holding [ov] (getMethod ov m pl)
      callWith pos f first (backTo pos (starEach [] X.env)) (backToKw pos (keywordEach [] X.env))) := by rfl) :
    PE X (.Call (.Attribute o m apos) [] [] pos) (tMethW X C m sp ta tNil) := by
  refine ⟨fun pins s σ H Q I h => ?_⟩
  refine PySem.W.methodCall_KW (pl := pl) (thn (he.run pins s σ H _ I h) fun u s1 ⟨x, H1, I1, rx, a, dx, fs, ex, ea, l, q⟩ => ?_) ht
  subst ex
  obtain rfl : u = Value.ref a := rx
  refine getmeth_ok I1 ea c hm l ?_
  obtain ⟨E, q2, hW⟩ := q
  exact PySem.W.callWith_K0 (first := [.ref a]) I1.kIn hm.kp (wpAny_call (code_selfR (us := [.ref a]) (vs := [.ref a]) F hr (.cons rfl .nil) I1 q2 hW))
theorem q_methVX0 {vo : DEX} (h : MVOkX X.prog X.w X.K X.mg X.base C k c m nmax S Sx) (hr : Room j X.A) (hkj : k ≤ j) (ho : QEX X C o vo)
    (hpe : ∀ {C' f : Addr} {sp : Sp} {to : TE}, PE X o to → Cls X.K C' → Meth X.K C' m f → FnR X.prog X.w X.K X.mg X.base (CXp X.prog X.w) k f sp → Room k X.A → PE X (.Call (.Attribute o m apos) [] [] pos) (tMethW X C' m sp to tNil) := by exact fun h1 h2 h3 h4 h5 => pe_methRW0 h1 h2 h3 h4 h5) :
    QEX X C (.Call (.Attribute o m apos) [] [] pos) (vObjVX c nmax S Sx vo (aL vNil)) := by
  obtain ⟨f, T, hm, hp, F⟩ := h.ex
  obtain ⟨to, po, so⟩ := ho.ex
  refine ⟨_, hpe po T.cls hm F (hr.mono hkj), fun γ M R Xd σ H Q r h kk kx => so γ M _ Xd σ H _ r h (fun od M1 x H1 o1 i1 e1 h1 => ?_) kx⟩
  cases od with
  | own a =>
    simp only at h1
    split at h1
    · rename_i c' ds q
      obtain ⟨rfl, h1⟩ := h1
      obtain ⟨hl, dx, vs, hx, _⟩ := own_obj o1 q
      have i1' := i1
      unfold Is at i1'
      refine ⟨a, dx, _, i1'.1, hx, zip_none hp, ?_⟩
      have kx2 := kx.ext e1
      have h2 : ([] : List D).length ≤ nmax ∧ (S [.own a, .tup []] M1 R noX ∨ Sx [.own a, .tup []] M1 Xd) := h1
      refine ⟨wishD X C M1 H1 Xd, ?_, fun cls d H' ⟨xd, M', o', i', e', h'⟩ => kx2 M' H' xd cls d o' i' e' h'⟩
      rcases h2.2 with hs | hs
      · exact .inl ⟨.own a, [], M1, R, h2.1, IsL.cons i1 IsL.nil, o1, hs, fun d' M' y H' o' i' e' h' => kk d' M' y H' o' i' (e1.trans e') h'⟩
      · exact .inr ⟨.own a, [], M1, Xd, h2.1, IsL.cons i1 IsL.nil, o1, hs, fun xd M' cls d H' o' i' e' h' => ⟨xd, M', o', i', e', h'⟩⟩
    · exact h1.elim
  | _ => exact False.elim h1
end
end Dl
namespace Dl
open PySem L2
/-! ### a tuple, repeated -/
def oRepT : DO := fun d e M R => match d, e with
  | .tup ds, .int k => ds ≠ [] ∧ 2 ≤ k ∧ k ≤ 1000 ∧ ds.length ≤ 1000 ∧ R (.tup (List.replicate k.toNat ds).flatten) M
  | _, _ => False
theorem f_repT {M : Mem} {R : DR} {ds : List D} {k : Int} : oRepT (.tup ds) (.int k) M R = (ds ≠ [] ∧ 2 ≤ k ∧ k ≤ 1000 ∧ ds.length ≤ 1000 ∧ R (.tup (List.replicate k.toNat ds).flatten) M) := id rfl
theorem sndO_repT {G : Gx} : SndO G (rRepT G.K) oRepT := fun d e M R H x y Q o i1 i2 h k => by
  unfold oRepT at h
  split at h
  · rename_i ds j
    obtain ⟨ne, h0, h1, hz, hr⟩ := h
    unfold Is at i1 i2
    obtain ⟨a, us, rfl, ha, hH, hl⟩ := i1
    obtain rfl := i2
    refine ⟨a, j, us, rfl, rfl, .inl (.inl hH), fun z => ne ?_, h0, h1, by rw [← hl.len]; exact hz, fun p hp => ?_⟩
    · have := hl.len
      rw [z] at this
      exact List.length_eq_zero_iff.mp this
    · exact k _ M _ _ (o.new hp) (new_tup o hp (hl.rep _)) (Ext.new hp) hr
  · exact h.elim
section
variable {X : Cx} {C : Addr} {a b : Expr} {va vb : DE} {pos : Pos}
theorem q_repT (ha : QE X C a va) (hb : QE X C b vb) : QE X C (.BinOp a .Mult b pos) (vOp oRepT va vb) := qe_op op_repT sndO_repT ha hb
end
end Dl
namespace Dl
open PySem L2
/-! ### a dict that is locked while a statement runs: for k in d -/
/-- what holds behind a place, when the lock is taken away -/
def lkE (Ed : DEnds) (p : Addr) (o : Obj) (xs : List V) (ks : List Key) (ds : List D) : DEnds :=
  ⟨fun γ M => M p = some (.lck o xs ks ds) ∧ Ed.nx γ (mset M p (.dct ks ds)), fun d M => M p = some (.lck o xs ks ds) ∧ Ed.rt d (mset M p (.dct ks ds)),
   fun γ M => M p = some (.lck o xs ks ds) ∧ Ed.bk γ (mset M p (.dct ks ds)), fun γ M => M p = some (.lck o xs ks ds) ∧ Ed.ct γ (mset M p (.dct ks ds)), fun _ _ _ => False⟩
def vLk (v : DS) : DS := fun Ed γ M => ∃ p ks ds, M p = some (.dct ks ds) ∧ ∀ o xs, v (lkE Ed p o xs ks ds) γ (mset M p (.lck o xs ks ds))
theorem e_vLk (v : DS) (Ed : DEnds) (γ : Gm) (M : Mem) : vLk v Ed γ M = (∃ p ks ds, M p = some (.dct ks ds) ∧ ∀ o xs, v (lkE Ed p o xs ks ds) γ (mset M p (.lck o xs ks ds))) := id rfl
theorem own_unlk {G : Gx} {M : Mem} {H : Hp} {p : Addr} {o : Obj} {xs : List V} {ks : List Key} {ds : List D} (w : Own G M H) (h : M p = some (.lck o xs ks ds)) :
    H p = some (.frz o (.dK (ks.zip xs))) ∧ Own G (mset M p (.dct ks ds)) (upd H p (.dK (ks.zip xs))) ∧ Ext M (mset M p (.dct ks ds)) H (upd H p (.dK (ks.zip xs))) := by
  obtain ⟨pu, hl, h1, il⟩ := w p _ h
  have x : Ext M (mset M p (.dct ks ds)) H (upd H p (.dK (ks.zip xs))) := Ext.put (by rw [h]; rfl)
  exact ⟨h1, w.setM x ⟨pu, hl, xs, upd_same, IsL.ext x ds xs il⟩, x⟩
section
variable {X : Cx} {C : Addr} {st : Stmt} {v : DS}
theorem qs_lk (h : QS X C st v) : QS X C st (vLk v) := by
  obtain ⟨t, p, s⟩ := h.ex
  refine ⟨_, ps_lock p, fun Ed γ M σ H E r l h => ?_⟩
  obtain ⟨q, ks, ds, hq, h⟩ := h
  obtain ⟨pu, hl, xs, ha, il⟩ := r.ow q _ hq
  refine ⟨q, _, ha, trivial, fun o => ?_⟩
  have x : Ext M (mset M q (.lck o xs ks ds)) H (upd H q (.frz o (.dK (ks.zip xs)))) := Ext.put (by rw [hq]; rfl)
  have w : Own ⟨X.K, C⟩ (mset M q (.lck o xs ks ds)) (upd H q (.frz o (.dK (ks.zip xs)))) := r.ow.setM x ⟨pu, hl, upd_same, IsL.ext x ds xs il⟩
  refine s (lkE Ed q o xs ks ds) γ _ σ _ _ (r.mk' x w) ⟨fun γ' M' σ' H' r' e' h' => ?_, fun d M' v H' o' i' e' h' => ?_, fun γ' M' σ' H' r' e' h' => ?_, fun γ' M' σ' H' r' e' h' => ?_, fun γ' M' σ' H' xd cls d r' i' e' h' => h'.elim⟩ (h o xs)
  · obtain ⟨h1, w2, x2⟩ := own_unlk r'.ow h'.1
    exact ⟨h1, l.nx _ _ _ _ (r'.mk' x2 w2) ((x.trans e').trans x2) h'.2⟩
  · obtain ⟨h1, w2, x2⟩ := own_unlk o' h'.1
    exact ⟨h1, l.rt _ _ _ _ w2 (Is.ext x2 _ _ i') ((x.trans e').trans x2) h'.2⟩
  · obtain ⟨h1, w2, x2⟩ := own_unlk r'.ow h'.1
    exact ⟨h1, l.bk _ _ _ _ (r'.mk' x2 w2) ((x.trans e').trans x2) h'.2⟩
  · obtain ⟨h1, w2, x2⟩ := own_unlk r'.ow h'.1
    exact ⟨h1, l.ct _ _ _ _ (r'.mk' x2 w2) ((x.trans e').trans x2) h'.2⟩
end
/-- the keys of a locked dict -/
def wLk (a : DE) : DI := fun γ M R => a γ M fun d M1 => match d with
  | .own p => ∃ o xs ks ds, M1 p = some (.lck o xs ks ds) ∧ R ⟨ks.map datK, fun M => M p = some (.lck o xs ks ds)⟩ M1
  | _ => False
section
variable {X : Cx} {C : Addr} {tg e : Expr} {ve : DE}
theorem itR_lk {G : Gx} {M1 : Mem} {H1 : Hp} {p : Addr} {o : Obj} {xs : List V} {ks : List Key} {ds : List D} (hl : ks.length = xs.length) : ItR G M1 H1 (Itk p o (ks.zip xs)) ⟨ks.map datK, fun M => M p = some (.lck o xs ks ds)⟩ := by
  intro M H xx w st i
  obtain ⟨_, _, h1, _⟩ := w p _ st
  have hz : (ks.zip xs).length = ks.length := by rw [List.length_zip, ← hl, Nat.min_self]
  refine ⟨fun d hd => ?_, fun hn => ?_⟩
  · rw [List.getElem?_map, Option.map_eq_some_iff] at hd
    obtain ⟨k, hk, rfl⟩ := hd
    have hi : i < ks.length := by
      rcases Nat.lt_or_ge i ks.length with h | h
      · exact h
      · rw [List.getElem?_eq_none h] at hk; cases hk
    refine ⟨⟨h1, by rw [hz]; exact hi⟩, fun y H' hy => ?_⟩
    obtain ⟨eH, k', v', hkv, ey⟩ := hy
    subst eH
    have e3 : (ks.zip xs).map (·.1) = ks := List.map_fst_zip (by rw [← hl]; omega)
    have e4 : ks[i]? = some k' := by
      rw [← e3, List.getElem?_map, hkv]; rfl
    rw [hk] at e4
    cases e4
    rw [ey]
    refine ⟨w, ?_, Ext.refl⟩
    cases k with
    | inl n => exact is_int
    | inr s => exact is_str
  · refine ⟨h1, ?_⟩
    rw [hz]
    have := hn
    rw [List.length_map] at this
    exact this
theorem qi_lk (he : QE X C e ve) : QI X C tg e (wLk ve) := by
  obtain ⟨t, p, s⟩ := he.ex
  refine ⟨_, pi_keys p, fun γ M R σ H Q r h k => s γ M _ σ H _ r h fun d M1 x H1 o1 i1 e1 h1 => ?_⟩
  cases d with
  | own a =>
    obtain ⟨o, xs, ks, ds, hm, h2⟩ := h1
    unfold Is at i1
    obtain ⟨_, hl, ha, il⟩ := o1 a _ hm
    exact ⟨a, o, i1.1, .inl ⟨_, ha, k _ _ M1 H1 o1 e1 (itR_lk (by rw [hl, il.len])) h2⟩⟩
  | _ => exact False.elim h1
/-- a loop over a locked dict of names -/
theorem vfor_lk {ve : DE} {g : DG} {b : DS} {Ed : DEnds} {γ : Gm} {M : Mem} (a : Addr) (ks : List Key) (ds : List D) (ha : M a = some (.dct ks ds)) (hve : ∀ (N : Mem) (F : DR), F (.own a) N → ve γ N F) (W : Nat → Gm → Mem → Prop)
    (h0 : W 0 γ M) (hst : ∀ i γ' M', W i γ' M' → M' a = some (.dct ks ds))
    (step : ∀ i k γ' M' (o : Obj) (xs : List V), W i γ' M' → ks[i]? = some k → g (datK k) γ' (mset M' a (.lck o xs ks ds)) fun γ2 M2 => b { lkE Ed a o xs ks ds with nx := fun γ3 M3 => M3 a = some (.lck o xs ks ds) ∧ W (i + 1) γ3 (mset M3 a (.dct ks ds)), ct := fun γ3 M3 => M3 a = some (.lck o xs ks ds) ∧ W (i + 1) γ3 (mset M3 a (.dct ks ds)), bk := (lkE Ed a o xs ks ds).nx } γ2 M2)
    (hd : ∀ γ' M', W ks.length γ' M' → Ed.nx γ' M') : vLk (vFor (wLk ve) g b) Ed γ M := by
  refine ⟨a, ks, ds, ha, fun o xs => hve _ _ ⟨o, xs, ks, ds, mset_same, fun i γ' M' => M' a = some (.lck o xs ks ds) ∧ W i γ' (mset M' a (.dct ks ds)), ⟨mset_same, ?_⟩, fun i γ' M' w => w.1, fun i d γ' M' w hd => ?_, fun γ' M' w => ?_⟩⟩
  · rw [mset_set]
    have e : mset M a (.dct ks ds) = M := by
      funext c; unfold mset; split
      · rename_i e; rw [e, ha]
      · rfl
    rw [e]; exact h0
  · rw [List.getElem?_map, Option.map_eq_some_iff] at hd
    obtain ⟨k, hk, rfl⟩ := hd
    have q := step i k γ' _ o xs w.2 hk
    rw [mset_set] at q
    have e : mset M' a (.lck o xs ks ds) = M' := by
      funext c; unfold mset; split
      · rename_i e; rw [e, w.1]
      · rfl
    rw [e] at q
    exact q
  · refine ⟨w.1, ?_⟩
    have := w.2
    rw [List.length_map] at this
    exact hd _ _ this
end
end Dl
namespace Dl
open PySem L2
/-! ### a list of texts, sorted -/
def oSortS : DC := fun ds M R => match ds with
  | [.lst xs] => (match strsOf xs with
    | some ss => ss.length < 64 ∧ ∀ ys : List Str, ys.Perm ss → PyProof.Rows.sortedS ys = true → R (.lst (ys.map D.str)) M
    | none => False)
  | _ => False
theorem strsOf_map : ∀ ss : List Str, strsOf (ss.map D.str) = some ss
  | [] => rfl
  | x :: r => by
    show (match strsOf (r.map D.str) with
      | some xs => some (x :: xs)
      | none => none) = _
    rw [strsOf_map r]
theorem f_sortS {M : Mem} {R : DR} {ss : List Str} : oSortS [.lst (ss.map D.str)] M R = (ss.length < 64 ∧ ∀ ys : List Str, ys.Perm ss → PyProof.Rows.sortedS ys = true → R (.lst (ys.map D.str)) M) := by
  unfold oSortS
  simp only [strsOf_map]
section
variable {X : Cx} {C : Addr}
theorem b_sortS : BQ X C (.builtin "sorted") oSortS := ⟨_, cr_sortedS, fun ds M R H xs Q o i1 h k => by
  unfold oSortS at h
  split at h
  · rename_i xs'
    obtain ⟨v, e, q⟩ := isL1 i1
    split at h
    · rename_i ss hss
      unfold Is at q
      obtain ⟨a, us, ev, m, ha, il⟩ := q
      have eu := strsOf_ok _ _ _ il hss
      refine ⟨a, ss, by rw [e, ev], .inl (.inl (by rw [ha, eu])), h.1, fun ys p h1 h2 hp => ?_⟩
      exact k _ M _ _ (o.new hp) (new_lst o hp (isL_strs ys)) (Ext.new hp) (h.2 ys h1 h2)
    · exact h.elim
  · exact h.elim⟩
end
end Dl
namespace Dl
open PySem L2
/-! ### == and != of a line and a value of another kind, both ways round -/
section
open PySem PySem.Calls PyProof.Rows PySem.W
def NoSub (h : Heap) (C : Addr) (T : String) : Prop := ∀ prog w, Looks (model prog w) h (isSubtype (.ref C) (.type T)) false
theorem int_eq_dec (b : Int) (u : Tok) (l C dx : Addr) :
    Meets (Builtin.«int.__eq__» ⟨[.int b u, .ref l], []⟩) (fun _ R s => s.heap.get? l = some (instObj C dx) ∧ R (.ok (.ret .notImplemented)) s) :=
  .of_wp fun prog w A R s h => by obtain ⟨hp, g, d, tk, os⟩ := s; obtain ⟨hl, h⟩ := h; wp_walk using wpAny_loadPart' hl, wpAny_load hl; exact ⟨_, rfl, h⟩
theorem int_ne_dec (b : Int) (u : Tok) (l C dx : Addr) :
    Meets (Builtin.«int.__ne__» ⟨[.int b u, .ref l], []⟩) (fun _ R s => s.heap.get? l = some (instObj C dx) ∧ R (.ok (.ret .notImplemented)) s) :=
  .of_wp fun prog w A R s h => by obtain ⟨hp, g, d, tk, os⟩ := s; obtain ⟨hl, h⟩ := h; wp_walk using wpAny_loadPart' hl, wpAny_load hl; exact ⟨_, rfl, h⟩
theorem bool_eq_dec (b : Bool) (l C dx : Addr) :
    Meets (Builtin.«int.__eq__» ⟨[.bool b, .ref l], []⟩) (fun _ R s => s.heap.get? l = some (instObj C dx) ∧ R (.ok (.ret .notImplemented)) s) :=
  .of_wp fun prog w A R s h => by obtain ⟨hp, g, d, tk, os⟩ := s; obtain ⟨hl, h⟩ := h; wp_walk using wpAny_loadPart' hl, wpAny_load hl; exact ⟨_, rfl, h⟩
theorem bool_ne_dec (b : Bool) (l C dx : Addr) :
    Meets (Builtin.«int.__ne__» ⟨[.bool b, .ref l], []⟩) (fun _ R s => s.heap.get? l = some (instObj C dx) ∧ R (.ok (.ret .notImplemented)) s) :=
  .of_wp fun prog w A R s h => by obtain ⟨hp, g, d, tk, os⟩ := s; obtain ⟨hl, h⟩ := h; wp_walk using wpAny_loadPart' hl, wpAny_load hl; exact ⟨_, rfl, h⟩
theorem str_eq_dec (b : Str) (u : Tok) (l C dx : Addr) :
    Meets (Builtin.«str.__eq__» ⟨[.str b u, .ref l], []⟩) (fun _ R s => s.heap.get? l = some (instObj C dx) ∧ R (.ok (.ret .notImplemented)) s) :=
  .of_wp fun prog w A R s h => by obtain ⟨hp, g, d, tk, os⟩ := s; obtain ⟨hl, h⟩ := h; wp_walk using wpAny_loadPart' hl, wpAny_load hl; exact ⟨_, rfl, h⟩
theorem str_ne_dec (b : Str) (u : Tok) (l C dx : Addr) :
    Meets (Builtin.«str.__ne__» ⟨[.str b u, .ref l], []⟩) (fun _ R s => s.heap.get? l = some (instObj C dx) ∧ R (.ok (.ret .notImplemented)) s) :=
  .of_wp fun prog w A R s h => by obtain ⟨hp, g, d, tk, os⟩ := s; obtain ⟨hl, h⟩ := h; wp_walk using wpAny_loadPart' hl, wpAny_load hl; exact ⟨_, rfl, h⟩
theorem none_eq_dec (l : Addr) : Gives (Builtin.«NoneType.__eq__» ⟨[.none, .ref l], []⟩) (.val (Value.notImplemented)) :=
  .of_wp fun M A E s Q h => by obtain ⟨hp, g, d, tk, os⟩ := s; wp_walk; exact ⟨_, rfl, h⟩
theorem none_ne_dec (l : Addr) : Gives (Builtin.«NoneType.__ne__» ⟨[.none, .ref l], []⟩) (.val (Value.notImplemented)) :=
  .of_wp fun M A E s Q h => by obtain ⟨hp, g, d, tk, os⟩ := s; wp_walk; exact ⟨_, rfl, h⟩
theorem list_eq_dec (l b : Addr) (items : Array Value) (n : Nat) (dd : Option Addr) (sl : Array (Option Value)) (C dx : Addr) :
    Meets (Builtin.«list.__eq__» ⟨[.ref l, .ref b], []⟩) (fun _ R s => s.heap.get? l = some { cls := .type "list", dict := dd, data := .seq items n, slots := sl } ∧ s.heap.get? b = some (instObj C dx) ∧ NoSub s.heap C "list" ∧ R (.ok (.ret .notImplemented)) s) :=
  .of_wp fun prog w A R s h => by obtain ⟨hp, g, d, tk, os⟩ := s; obtain ⟨hl, hb, hs, h⟩ := h; wp_walk using wpAny_loadPart' hl, wpAny_loadPart' hb; refine (hs prog w).at ?_; wp_walk; exact ⟨_, rfl, h⟩
theorem list_ne_dec (l b : Addr) (items : Array Value) (n : Nat) (dd : Option Addr) (sl : Array (Option Value)) (C dx : Addr) :
    Meets (Builtin.«list.__ne__» ⟨[.ref l, .ref b], []⟩) (fun _ R s => s.heap.get? l = some { cls := .type "list", dict := dd, data := .seq items n, slots := sl } ∧ s.heap.get? b = some (instObj C dx) ∧ NoSub s.heap C "list" ∧ R (.ok (.ret .notImplemented)) s) :=
  .of_wp fun prog w A R s h => by obtain ⟨hp, g, d, tk, os⟩ := s; obtain ⟨hl, hb, hs, h⟩ := h; wp_walk using wpAny_loadPart' hl, wpAny_loadPart' hb; refine (hs prog w).at ?_; wp_walk; exact ⟨_, rfl, h⟩
theorem tuple_eq_dec (l b : Addr) (items : Array Value) (n : Nat) (dd : Option Addr) (sl : Array (Option Value)) (C dx : Addr) :
    Meets (Builtin.«tuple.__eq__» ⟨[.ref l, .ref b], []⟩) (fun _ R s => s.heap.get? l = some { cls := .type "tuple", dict := dd, data := .seq items n, slots := sl } ∧ s.heap.get? b = some (instObj C dx) ∧ NoSub s.heap C "tuple" ∧ R (.ok (.ret .notImplemented)) s) :=
  .of_wp fun prog w A R s h => by obtain ⟨hp, g, d, tk, os⟩ := s; obtain ⟨hl, hb, hs, h⟩ := h; wp_walk using wpAny_loadPart' hl, wpAny_loadPart' hb; refine (hs prog w).at ?_; wp_walk; exact ⟨_, rfl, h⟩
theorem tuple_ne_dec (l b : Addr) (items : Array Value) (n : Nat) (dd : Option Addr) (sl : Array (Option Value)) (C dx : Addr) :
    Meets (Builtin.«tuple.__ne__» ⟨[.ref l, .ref b], []⟩) (fun _ R s => s.heap.get? l = some { cls := .type "tuple", dict := dd, data := .seq items n, slots := sl } ∧ s.heap.get? b = some (instObj C dx) ∧ NoSub s.heap C "tuple" ∧ R (.ok (.ret .notImplemented)) s) :=
  .of_wp fun prog w A R s h => by obtain ⟨hp, g, d, tk, os⟩ := s; obtain ⟨hl, hb, hs, h⟩ := h; wp_walk using wpAny_loadPart' hl, wpAny_loadPart' hb; refine (hs prog w).at ?_; wp_walk; exact ⟨_, rfl, h⟩
theorem dict_eq_dec (l b : Addr) (C dx : Addr) :
    Meets (Builtin.«dict.__eq__» ⟨[.ref l, .ref b], []⟩) (fun _ R s => s.TypeIs (.ref l) "dict" ∧ s.heap.get? b = some (instObj C dx) ∧ NoSub s.heap C "dict" ∧ R (.ok (.ret .notImplemented)) s) :=
  .of_wp fun prog w A R s h => by
    obtain ⟨hp, g, d, tk, os⟩ := s; obtain ⟨hl, hb, hs, h⟩ := h
    show wpAny _ _ (Builtin.Dict.dictSlotArgs "__eq__" ⟨[.ref l, .ref b], []⟩ >>= _) _ _ _
    refine wpAny_bind ?_
    unfold Builtin.Dict.dictSlotArgs
    refine wpAny_bind (wpAny_notOrdered_dict hl ?_)
    show wpAny _ _ (pure (Value.ref l, Value.ref b)) _ _ _
    refine wpAny_pure ?_
    wp_walk using wpAny_loadPart' hb; refine (hs prog w).at ?_; wp_walk; exact ⟨_, rfl, h⟩
theorem dict_ne_dec (l b : Addr) (C dx : Addr) :
    Meets (Builtin.«dict.__ne__» ⟨[.ref l, .ref b], []⟩) (fun _ R s => s.TypeIs (.ref l) "dict" ∧ s.heap.get? b = some (instObj C dx) ∧ NoSub s.heap C "dict" ∧ R (.ok (.ret .notImplemented)) s) :=
  .of_wp fun prog w A R s h => by
    obtain ⟨hp, g, d, tk, os⟩ := s; obtain ⟨hl, hb, hs, h⟩ := h
    show wpAny _ _ (Builtin.Dict.dictSlotArgs "__ne__" ⟨[.ref l, .ref b], []⟩ >>= _) _ _ _
    refine wpAny_bind ?_
    unfold Builtin.Dict.dictSlotArgs
    refine wpAny_bind (wpAny_notOrdered_dict hl ?_)
    show wpAny _ _ (pure (Value.ref l, Value.ref b)) _ _ _
    refine wpAny_pure ?_
    wp_walk using wpAny_loadPart' hb; refine (hs prog w).at ?_; wp_walk; exact ⟨_, rfl, h⟩
end
section
open PySem PySem.Calls PyProof.Rows PySem.W
/-- a builtin value -/
inductive BO (s : Shared) : Value → String → Prop
  | non : BO s .none "NoneType"
  | bl (b : Bool) : BO s (.bool b) "bool"
  | int (i : Int) (t : Tok) : BO s (.int i t) "int"
  | str (x : Str) (t : Tok) : BO s (.str x t) "str"
  | lst {a : Addr} {items : Array Value} {n : Nat} {dd : Option Addr} {sl : Array (Option Value)} (e : s.heap.get? a = some { cls := .type "list", dict := dd, data := .seq items n, slots := sl }) : BO s (.ref a) "list"
  | tup {a : Addr} {items : Array Value} {n : Nat} {dd : Option Addr} {sl : Array (Option Value)} (e : s.heap.get? a = some { cls := .type "tuple", dict := dd, data := .seq items n, slots := sl }) : BO s (.ref a) "tuple"
  | dct {a : Addr} (e : s.TypeIs (.ref a) "dict") : BO s (.ref a) "dict"
theorem BO.ty {s : Shared} {u : Value} {T : String} (h : BO s u T) : s.TypeIs u T := by
  cases h with
  | non => exact rfl
  | bl b => exact rfl
  | int i t => exact typeIs_int s i t
  | str x t => exact typeIs_str s x t
  | lst e => exact ⟨_, e, rfl⟩
  | tup e => exact ⟨_, e, rfl⟩
  | dct e => exact e
variable {prog : Program} {w : World} {A : Around} {E : Value → Shared → Prop} {s : Shared} {K : Frag} {x y C dx f : Addr} {ox oy : Obj} {od od' : Option Obj} {u : Value} {T : String}
theorem BO.decl_eq {Q : Option Value → Shared → Prop} (h : BO s u T) (hl : s.heap.get? x = some (instObj C dx)) (hs : NoSub s.heap C T) (hq : Q none s) : wpAny (model prog w) A (tryCompare u (cmpInfo .Eq).2.1 (.ref x)) Q E s := by
  cases h with
  | non => exact wpAny_tryCompare_declines rfl F.slot_NoneType_eq (call_gives F.slot_NoneType_eq rfl F.entry_NoneType_eq (F.args_NoneType_eq_2 _ _) (none_eq_dec x) ⟨rfl, hq⟩)
  | bl b => exact wpAny_tryCompare_declines rfl F.slot_bool_eq (call_meets F.slot_bool_eq rfl F.entry_int_eq (F.args_int_eq_2 _ _) (bool_eq_dec b x C dx) ⟨hl, rfl, hq⟩)
  | int i t => exact wpAny_tryCompare_declines (typeIs_int s i t) F.slot_int_eq (call_meets F.slot_int_eq (typeIs_int s i t) F.entry_int_eq (F.args_int_eq_2 _ _) (int_eq_dec i t x C dx) ⟨hl, rfl, hq⟩)
  | str i t => exact wpAny_tryCompare_declines (typeIs_str s i t) F.slot_str_eq (call_meets F.slot_str_eq (typeIs_str s i t) F.entry_str_eq (F.args_str_eq_2 _ _) (str_eq_dec i t x C dx) ⟨hl, rfl, hq⟩)
  | lst e => exact wpAny_tryCompare_declines ⟨_, e, rfl⟩ F.slot_list_eq (call_meets F.slot_list_eq ⟨_, e, rfl⟩ F.entry_list_eq (F.args_list_eq_2 _ _) (list_eq_dec _ x _ _ _ _ C dx) ⟨e, hl, hs, rfl, hq⟩)
  | tup e => exact wpAny_tryCompare_declines ⟨_, e, rfl⟩ F.slot_tuple_eq (call_meets F.slot_tuple_eq ⟨_, e, rfl⟩ F.entry_tuple_eq (F.args_tuple_eq_2 _ _) (tuple_eq_dec _ x _ _ _ _ C dx) ⟨e, hl, hs, rfl, hq⟩)
  | dct e => exact wpAny_tryCompare_declines e F.slot_dict_eq (call_meets F.slot_dict_eq e F.entry_dict_eq (F.args_dict_eq_2 _ _) (dict_eq_dec _ x C dx) ⟨e, hl, hs, rfl, hq⟩)
theorem BO.decl_ne {Q : Option Value → Shared → Prop} (h : BO s u T) (hl : s.heap.get? x = some (instObj C dx)) (hs : NoSub s.heap C T) (hq : Q none s) : wpAny (model prog w) A (tryCompare u (cmpInfo .NotEq).2.1 (.ref x)) Q E s := by
  cases h with
  | non => exact wpAny_tryCompare_declines rfl F.slot_NoneType_ne (call_gives F.slot_NoneType_ne rfl F.entry_NoneType_ne (F.args_NoneType_ne_2 _ _) (none_ne_dec x) ⟨rfl, hq⟩)
  | bl b => exact wpAny_tryCompare_declines rfl F.slot_bool_ne (call_meets F.slot_bool_ne rfl F.entry_int_ne (F.args_int_ne_2 _ _) (bool_ne_dec b x C dx) ⟨hl, rfl, hq⟩)
  | int i t => exact wpAny_tryCompare_declines (typeIs_int s i t) F.slot_int_ne (call_meets F.slot_int_ne (typeIs_int s i t) F.entry_int_ne (F.args_int_ne_2 _ _) (int_ne_dec i t x C dx) ⟨hl, rfl, hq⟩)
  | str i t => exact wpAny_tryCompare_declines (typeIs_str s i t) F.slot_str_ne (call_meets F.slot_str_ne (typeIs_str s i t) F.entry_str_ne (F.args_str_ne_2 _ _) (str_ne_dec i t x C dx) ⟨hl, rfl, hq⟩)
  | lst e => exact wpAny_tryCompare_declines ⟨_, e, rfl⟩ F.slot_list_ne (call_meets F.slot_list_ne ⟨_, e, rfl⟩ F.entry_list_ne (F.args_list_ne_2 _ _) (list_ne_dec _ x _ _ _ _ C dx) ⟨e, hl, hs, rfl, hq⟩)
  | tup e => exact wpAny_tryCompare_declines ⟨_, e, rfl⟩ F.slot_tuple_ne (call_meets F.slot_tuple_ne ⟨_, e, rfl⟩ F.entry_tuple_ne (F.args_tuple_ne_2 _ _) (tuple_ne_dec _ x _ _ _ _ C dx) ⟨e, hl, hs, rfl, hq⟩)
  | dct e => exact wpAny_tryCompare_declines e F.slot_dict_ne (call_meets F.slot_dict_ne e F.entry_dict_ne (F.args_dict_ne_2 _ _) (dict_ne_dec _ x C dx) ⟨e, hl, hs, rfl, hq⟩)
theorem ne_slotV {b : Value} {Q : Value → Shared → Prop} (hu : A.units + 1 < cLine) (X : K.In s.heap) (I : InstAt s.heap x ox C od) (hp : plainOver K C = true) (hs : findIn K (.ref C) "__eq__" = some (some (.ref f))) (hf : isFn K (.ref f) = true)
    (h : wpAny (model prog w) A.in1 (call (.ref f) [.ref x, b]) (fun v s' => ∃ b, v = .bool b ∧ Q (.bool (!b)) s') E s) : wpAny (model prog w) A (call (.builtin "object.__ne__") [.ref x, b]) Q E s := by
  obtain ⟨cd, hc, ho⟩ := any_some hp
  have ne : cd.mro.isEmpty = false := by cases q : cd.mro with | nil => rw [q] at ho; cases ho | cons _ _ => rfl
  have sub : Looks (model prog w) s.heap (isInstance (.ref x) (.type "object")) true := I.type.andThen (looks_mroIn X (by unfold mroIn; rw [hc, Option.bind_some, if_neg (by rw [ne]; decide), only_has ho]))
  have FB := PySem.F.cmp_object
  refine wpAny_call (codeAny_call_builtin FB.ne.plain PySem.F.cmpEntry_ne (check_slot PySem.F.cmpKind_ne PySem.F.cmpSplit_ne sub (PySem.F.cmpArgs_ne _ _) ?_))
  unfold Builtin.«object.__ne__»
  repeat (first
    | with_reducible refine wpAny_cRoomFor (A := A.in1) hu ?_
    | (refine wpAny_bind (m := callSpecialIfBound? (.ref x) (Str.ofString "__eq__") [b])
        (ifBound_K X I hs hf (wpAny_mono h (fun r s' hr => by
          obtain ⟨b, rfl, hq⟩ := hr
          repeat (first | exact hq | exact wpAny_pure hq | exact wpAny_truthy_bool hq | (refine wpAny_bind (m := truthy (.bool _)) (wpAny_truthy_bool ?_)) | wp_step)) fun _ _ e => e)))
    | wp_step)
/-- one != b by object's own -/
theorem ne_one {b : Value} {Q : Value → Shared → Prop} (hu : A.units + 1 < cLine) (X : K.In s.heap) (I : InstAt s.heap x ox C od) (hp : plainOver K C = true)
    (hn : findIn K (.ref C) "__ne__" = some (some (.builtin "object.__ne__"))) (hs : findIn K (.ref C) "__eq__" = some (some (.ref f))) (hf : isFn K (.ref f) = true)
    (h : wpAny (model prog w) A.in1 (call (.ref f) [.ref x, b]) (fun v s' => ∃ b, v = .bool b ∧ Q (.bool (!b)) s') E s) : wpAny (model prog w) A (tryCompare (.ref x) "__ne__" b) (fun r s' => ∃ b, r = some (.bool b) ∧ Q (.bool b) s') E s := by
  have FB := PySem.F.cmp_object
  simp only [tryCompare]
  have call1 : wpAny (model prog w) A (call (.builtin "object.__ne__") [.ref x, b]) (fun v s' => ∃ b, v = .bool b ∧ Q (.bool b) s') E s :=
    ne_slotV hu X I hp hs hf (wpAny_mono h (fun v s' hv => by obtain ⟨b, rfl, hq⟩ := hv; exact ⟨b, rfl, _, rfl, hq⟩) fun _ _ e => e)
  have spec : wpAny (model prog w) A (callSpecialIfBound? (.ref x) "__ne__" [b]) (fun r s' => ∃ b, r = some (.bool b) ∧ Q (.bool b) s') E s := by
    simp only [callSpecialIfBound?, bindSpecialIfBound?]
    refine wpAny_holding (wpAny_bind (wpAny_bind (wpAny_bind (I.type.here ((looks_findIn X hn).here ?_)))))
    simp only [FB.ne.bind]
    refine wpAny_bind (wpAny_askSetting (wpAny_ite ?_))
    have fin : wpAny (model prog w) A (call (.builtin "object.__ne__") ([.ref x] ++ [b]) >>= fun v => pure (some v)) (fun r s' => ∃ b, r = some (.bool b) ∧ Q (.bool b) s') E s :=
      wpAny_bind (wpAny_mono call1 (fun v s' h' => wpAny_pure (by obtain ⟨b, rfl, hq⟩ := h'; exact ⟨b, rfl, hq⟩)) fun _ _ h' => h')
    split
    · exact wpAny_bind (wpAny_pure (wpAny_pure fin))
    · exact wpAny_tryCatch (wpAny_bind (wpAny_pure (wpAny_pure fin)))
  refine wpAny_bind (wpAny_mono spec (fun r s' hr => ?_) fun _ _ e => e)
  obtain ⟨b, rfl, hq⟩ := hr
  exact wpAny_pure ⟨b, rfl, hq⟩
/-- one != a builtin value -/
theorem ne_left {Q : Value → Shared → Prop} (hu : A.units + 1 < cLine) (X : K.In s.heap) (I : InstAt s.heap x ox C od) (B : BO s u T) (h2 : subIn K (.type T) (.ref C) = some false) (hp : plainOver K C = true)
    (hn : findIn K (.ref C) "__ne__" = some (some (.builtin "object.__ne__"))) (hs : findIn K (.ref C) "__eq__" = some (some (.ref f))) (hf : isFn K (.ref f) = true)
    (h : wpAny (model prog w) A.in1 (call (.ref f) [.ref x, u]) (fun v s' => ∃ b, v = .bool b ∧ Q (.bool (!b)) s') E s) : wpAny (model prog w) A (richCompare .NotEq (.ref x) u) Q E s := by
  unfold richCompare
  simp only [oneThing_ref]
  refine wpAny_holding (wpAny_bind (wpAny_cRoomFor (Nat.lt_of_succ_lt hu) ?_))
  rw [cmpInfo_NotEq]
  dsimp only
  refine wpAny_bind (I.type.here (wpAny_bind (wpAny_typeOf B.ty ?_)))
  rw [show (Value.ref C != Value.type T) = true from by simp]
  simp only [if_true]
  refine wpAny_bind ((looks_subIn X h2).here ?_)
  simp only [Bool.false_eq_true, if_false]
  refine wpAny_bind (wpAny_mono (ne_one hu X I hp hn hs hf h) (fun r s' hr => ?_) fun _ _ e => e)
  obtain ⟨b, rfl, hq⟩ := hr
  first | exact wpAny_pure hq | exact wpAny_pure (wpAny_pure hq)
/-- a builtin value == one -/
theorem eq_right {Q : Value → Shared → Prop} (hu : A.units < cLine) (X : K.In s.heap) (I : InstAt s.heap x ox C od) (hl : s.heap.get? x = some (instObj C dx)) (B : BO s u T) (h2 : subIn K (.ref C) (.type T) = some false)
    (hs : findIn K (.ref C) "__eq__" = some (some (.ref f))) (hf : isFn K (.ref f) = true)
    (h : wpAny (model prog w) A (call (.ref f) [.ref x, u]) (W.CmpBack Q) E s) : wpAny (model prog w) A (richCompare .Eq u (.ref x)) Q E s := by
  have one : wpAny (model prog w) A (tryCompare (.ref x) "__eq__" u) (fun r s' => ∃ v, r = some v ∧ Q v s') E s := by
    unfold tryCompare
    refine wpAny_bind (ifBound_K X I hs hf (wpAny_mono h (fun v s' hv => ?_) fun _ _ e => e))
    cases v <;> first | exact hv.elim | exact wpAny_pure ⟨_, rfl, hv⟩
  have dec := fun (Q' : Option Value → Shared → Prop) (hq : Q' none s) => B.decl_eq (prog := prog) (w := w) (A := A) (E := E) hl (fun _ _ => looks_subIn X h2) hq
  rcases hi : cmpInfo CmpOp.Eq with ⟨sym, f1, r⟩
  have er : r = "__eq__" := by
    have : (cmpInfo CmpOp.Eq).2.2 = r := by rw [hi]
    rw [← this]; rfl
  rw [hi] at dec
  dsimp only at dec
  unfold richCompare
  simp only [hi, B.ty.oneThing_none]
  refine wpAny_holding (wpAny_bind (wpAny_cRoomFor hu ?_))
  refine wpAny_bind (wpAny_typeOf B.ty (wpAny_bind (I.type.here ?_)))
  rw [show (Value.type T != Value.ref C) = true from by simp]
  simp only [if_true]
  refine wpAny_bind ((looks_subIn X h2).here ?_)
  simp only [Bool.false_eq_true, if_false, Bool.not_false, if_true]
  refine wpAny_bind (dec _ ?_)
  dsimp only
  subst er
  refine wpAny_bind (wpAny_mono one (fun r s' hr => ?_) fun _ _ e => e)
  obtain ⟨v, rfl, hq⟩ := hr
  first | exact wpAny_pure hq | exact wpAny_pure (wpAny_pure hq)
/-- a builtin value != one -/
theorem ne_right {Q : Value → Shared → Prop} (hu : A.units + 1 < cLine) (X : K.In s.heap) (I : InstAt s.heap x ox C od) (hl : s.heap.get? x = some (instObj C dx)) (B : BO s u T) (h2 : subIn K (.ref C) (.type T) = some false) (hp : plainOver K C = true)
    (hn : findIn K (.ref C) "__ne__" = some (some (.builtin "object.__ne__"))) (hs : findIn K (.ref C) "__eq__" = some (some (.ref f))) (hf : isFn K (.ref f) = true)
    (h : wpAny (model prog w) A.in1 (call (.ref f) [.ref x, u]) (fun v s' => ∃ b, v = .bool b ∧ Q (.bool (!b)) s') E s) : wpAny (model prog w) A (richCompare .NotEq u (.ref x)) Q E s := by
  have one := ne_one hu X I hp hn hs hf h
  have dec := fun (Q' : Option Value → Shared → Prop) (hq : Q' none s) => B.decl_ne (prog := prog) (w := w) (A := A) (E := E) hl (fun _ _ => looks_subIn X h2) hq
  rcases hi : cmpInfo CmpOp.NotEq with ⟨sym, f1, r⟩
  have er : r = "__ne__" := by
    have : (cmpInfo CmpOp.NotEq).2.2 = r := by rw [hi]
    rw [← this]; rfl
  rw [hi] at dec
  dsimp only at dec
  unfold richCompare
  simp only [hi, B.ty.oneThing_none]
  refine wpAny_holding (wpAny_bind (wpAny_cRoomFor (Nat.lt_of_succ_lt hu) ?_))
  refine wpAny_bind (wpAny_typeOf B.ty (wpAny_bind (I.type.here ?_)))
  rw [show (Value.type T != Value.ref C) = true from by simp]
  simp only [if_true]
  refine wpAny_bind ((looks_subIn X h2).here ?_)
  simp only [Bool.false_eq_true, if_false, Bool.not_false, if_true]
  refine wpAny_bind (dec _ ?_)
  dsimp only
  subst er
  refine wpAny_bind (wpAny_mono one (fun r s' hr => ?_) fun _ _ e => e)
  obtain ⟨v, rfl, hq⟩ := hr
  first | exact wpAny_pure hq | exact wpAny_pure (wpAny_pure hq)
end
section
open PySem PySem.Calls PyProof.Rows PySem.W
variable {prog : Program} {w : World} {A : Around} {E : Value → Shared → Prop} {s : Shared} {K : Frag} {x y C dx f : Addr} {ox oy : Obj} {od od' : Option Obj} {u : Value} {T : String}
/-- one == a builtin value -/
theorem eq_left {Q : Value → Shared → Prop} (hu : A.units < cLine) (X : K.In s.heap) (I : InstAt s.heap x ox C od) (B : BO s u T) (h2 : subIn K (.type T) (.ref C) = some false)
    (hs : findIn K (.ref C) "__eq__" = some (some (.ref f))) (hf : isFn K (.ref f) = true)
    (h : wpAny (model prog w) A (call (.ref f) [.ref x, u]) (W.CmpBack Q) E s) : wpAny (model prog w) A (richCompare .Eq (.ref x) u) Q E s := by
  have one : wpAny (model prog w) A (tryCompare (.ref x) "__eq__" u) (fun r s' => ∃ v, r = some v ∧ Q v s') E s := by
    unfold tryCompare
    refine wpAny_bind (ifBound_K X I hs hf (wpAny_mono h (fun v s' hv => ?_) fun _ _ e => e))
    cases v <;> first | exact hv.elim | exact wpAny_pure ⟨_, rfl, hv⟩
  rcases hi : cmpInfo CmpOp.Eq with ⟨sym, f1, r⟩
  have er : f1 = "__eq__" := by
    have : (cmpInfo CmpOp.Eq).2.1 = f1 := by rw [hi]
    rw [← this]; rfl
  unfold richCompare
  simp only [oneThing_ref, hi]
  refine wpAny_holding (wpAny_bind (wpAny_cRoomFor hu ?_))
  refine wpAny_bind (I.type.here (wpAny_bind (wpAny_typeOf B.ty ?_)))
  rw [show (Value.ref C != Value.type T) = true from by simp]
  simp only [if_true]
  refine wpAny_bind ((looks_subIn X h2).here ?_)
  simp only [Bool.false_eq_true, if_false]
  subst er
  refine wpAny_bind (wpAny_mono one (fun r s' hr => ?_) fun _ _ e => e)
  obtain ⟨b, rfl, hq⟩ := hr
  first | exact wpAny_pure hq | exact wpAny_pure (wpAny_pure hq)
end
/-- a builtin value of the model's -/
inductive BV (H : Hp) : V → Ty → Prop
  | non : BV H .non .non
  | bl (b : Bool) : BV H (.bl b) .bl
  | int (i : Int) : BV H (.int i) .int
  | str (x : Str) : BV H (.str x) .str
  | tup {a : Addr} {xs : List V} (e : H a = some (.tup xs)) : BV H (.ref a) .tup
  | lst {a : Addr} {xs : List V} (e : H a = some (.lst xs)) : BV H (.ref a) .lst
  | dct {a : Addr} {kvs : List (Key × V)} (e : H a = some (.dK kvs)) : BV H (.ref a) .dct
theorem bv_of {G : Gx} {M : Mem} {H : Hp} {d : D} {v : V} {t : Ty} (h : Is G M H d v) (e : tyD d = some t) : BV H v t := by
  cases d with
  | non => cases e; unfold Is at h; rw [h]; exact .non
  | bl b => cases e; unfold Is at h; rw [h]; exact .bl b
  | int b => cases e; unfold Is at h; rw [h]; exact .int b
  | str b => cases e; unfold Is at h; rw [h]; exact .str b
  | tup b => cases e; unfold Is at h; obtain ⟨a, xs, e1, _, ha, _⟩ := h; rw [e1]; exact .tup ha
  | lst b => cases e; unfold Is at h; obtain ⟨a, xs, e1, _, ha, _⟩ := h; rw [e1]; exact .lst ha
  | dct ks ds => cases e; unfold Is at h; obtain ⟨a, xs, e1, _, ha, _⟩ := h; rw [e1]; exact .dct ha
  | _ => cases e
section
variable {X : Cx} {pins : List (Addr × Obj)} {σ : St} {H : Hp} {s : Shared}
theorem bo_of {x : V} {u : Value} {t : Ty} (I : Inv X pins σ H s) (rx : RelV x u) (b : BV H x t) : BO s u t.nm := by
  cases b with
  | non => cases (show u = Value.none from rx); exact .non
  | bl y => cases (show u = Value.bool y from rx); exact .bl y
  | int i => obtain ⟨t, q⟩ := (show ∃ t, u = Value.int i t from rx); cases q; exact .int i t
  | str y => obtain ⟨t, q⟩ := (show ∃ t, u = Value.str y t from rx); cases q; exact .str y t
  | @lst a xs ea =>
    cases (show u = Value.ref a from rx)
    obtain ⟨_, _, n, _, h1⟩ := (show ObjOk X.prog X.w H s.heap a (.lst xs) from I.hok a _ ea)
    exact .lst h1
  | @tup a xs ea =>
    cases (show u = Value.ref a from rx)
    obtain ⟨_, _, _, o, h1, h2, n, h3⟩ := (show ObjOk X.prog X.w H s.heap a (.tup xs) from I.hok a _ ea)
    obtain ⟨cls, dd, data, sl⟩ := o
    dsimp only at h2 h3
    subst h2 h3
    exact .tup h1
  | @dct a kvs ea =>
    cases (show u = Value.ref a from rx)
    obtain ⟨_, _, vs, _, o, es, ep, h1, h2, _⟩ := (show ObjOk X.prog X.w H s.heap a (.dK kvs) from I.hok a _ ea)
    exact .dct ⟨o, h1, h2.1⟩
end
/-- what of the text a class must have to be compared with builtin values -/
structure EqF (K : PySem.W.Frag) (C : Addr) : Prop where
  nf : NeF K C
  no : ∀ t : Ty, PySem.W.subIn K (.ref C) (.type t.nm) = some false
theorem EqF.no1 {K : PySem.W.Frag} {C : Addr} (_ : EqF K C) (t : Ty) : PySem.W.subIn K (.type t.nm) (.ref C) = some false := by
  cases t <;> rfl
def tysL : List Ty := [.non, .bl, .int, .str, .tup, .lst, .dct]
def eqxB (K : PySem.W.Frag) (C : Addr) : Bool := neB K C && tysL.all fun t => PySem.W.subIn K (.ref C) (.type t.nm) == some false
theorem eqxB_ok {K : PySem.W.Frag} {C : Addr} (h : eqxB K C = true) : EqF K C := ⟨neB_ok (He.ba h).1, fun t => by
  have q := List.all_eq_true.mp (He.ba h).2 t (by cases t <;> simp [tysL])
  exact beq_iff_eq.mp q⟩
section
variable {X : Cx} {C : Addr} {j k : Nat} {S : DSp}
def rEqX (C : Addr) (sp : Sp) : R2 := fun x y H Q => (∃ a dx fs t, x = .ref a ∧ H a = some (.ins C dx fs) ∧ BV H y t ∧ sp [x, y] H Q E0) ∨ (∃ b dx fs t, y = .ref b ∧ H b = some (.ins C dx fs) ∧ BV H x t ∧ sp [y, x] H Q E0)
theorem op_eqX {f : Addr} {sp : Sp} (N : EqF X.K C) (hs : PySem.W.findIn X.K (.ref C) "__eq__" = some (some (.ref f))) (hf : PySem.W.isFn X.K (.ref f) = true) (F : FnR X.prog X.w X.K X.mg X.base CX0 k f sp) (hr : Room k X.A) : OpR X (compareOp .Eq) (rEqX C sp) := by
  intro pins s σ H x y v u Q I rx ry h
  rcases h with ⟨a, dx, fs, t, rfl, ea, hy, hsp⟩ | ⟨b, dx, fs, t, rfl, ea, hx, hsp⟩
  · obtain rfl : v = Value.ref a := rx
    obtain ⟨ox, od, J⟩ := inst_at I ea
    show wpAny _ _ (PySem.richCompare .Eq (.ref a) u) _ _ _
    refine eq_left hr.units0 I.kIn J (bo_of I ry hy) (N.no1 t) hs hf ?_
    exact wpAny_mono (wpAny_call (run_fnR (E := E0) (us := [.ref a, u]) (vs := [.ref a, y]) F hr pass0 I (.cons rfl (.cons ry .nil)) hsp)) (fun v s' z => cmpBack z) fun _ _ z => z
  · obtain rfl : u = Value.ref b := ry
    obtain ⟨ox, od, J⟩ := inst_at I ea
    obtain ⟨_, _, _, hl, _⟩ := (show ObjOk X.prog X.w H s.heap b (.ins C dx fs) from I.hok b _ ea)
    show wpAny _ _ (PySem.richCompare .Eq v (.ref b)) _ _ _
    refine eq_right hr.units0 I.kIn J hl (bo_of I rx hx) (N.no t) hs hf ?_
    exact wpAny_mono (wpAny_call (run_fnR (E := E0) (us := [.ref b, v]) (vs := [.ref b, x]) F hr pass0 I (.cons rfl (.cons rx .nil)) hsp)) (fun v s' z => cmpBack z) fun _ _ z => z
def oEqX (S : DSp) : DO := fun d e M R => (isLn d = true ∧ (tyD e).isSome = true ∧ S [d, e] M R noX) ∨ (isLn e = true ∧ (tyD d).isSome = true ∧ S [e, d] M R noX)
theorem e_oEqX (S : DSp) (d e : D) (M : Mem) (R : DR) : oEqX S d e M R = ((isLn d = true ∧ (tyD e).isSome = true ∧ S [d, e] M R noX) ∨ (isLn e = true ∧ (tyD d).isSome = true ∧ S [e, d] M R noX)) := propext Iff.rfl
theorem sndO_eqX {G : Gx} : SndO G (rEqX G.C (spD G 2 S)) (oEqX S) := fun d e M R H x y Q o i1 i2 h kk => by
  rcases h with ⟨h1, h2, h3⟩ | ⟨h1, h2, h3⟩
  · obtain ⟨a, dx, q, ex, hx⟩ := ln_at i1 h1
    obtain ⟨t, ht⟩ := Option.isSome_iff_exists.mp h2
    exact .inl ⟨a, dx, _, t, ex, hx, bv_of i2 ht, spD_of rfl i1 o (IsL.cons i2 IsL.nil) Ext.refl Ext.refl h3 kk _⟩
  · obtain ⟨a, dx, q, ex, hx⟩ := ln_at i2 h1
    obtain ⟨t, ht⟩ := Option.isSome_iff_exists.mp h2
    exact .inr ⟨a, dx, _, t, ex, hx, bv_of i1 ht, spD_of rfl i2 o (IsL.cons i1 IsL.nil) Ext.refl Ext.refl h3 kk _⟩
theorem c_eqX (N : EqF X.K C) (h : UOk X.prog X.w X.K X.mg X.base C k "__eq__" 2 S) (hr : Room j X.A) (hkj : k ≤ j) : CmpQ X C .Eq (oEqX S) := by
  obtain ⟨f, fd, ps, hm, hf, F, hb⟩ := h.ex
  exact ⟨_, op_eqX N hm hf (raw0 F hb) (hr.mono hkj), sndO_eqX⟩
def rNeX (C : Addr) (sp : Sp) : R2 := fun x y H Q => (∃ a dx fs t, x = .ref a ∧ H a = some (.ins C dx fs) ∧ BV H y t ∧ sp [x, y] H (fun v H' => ∃ b, v = .bl b ∧ Q (.bl (!b)) H') E0) ∨ (∃ b dx fs t, y = .ref b ∧ H b = some (.ins C dx fs) ∧ BV H x t ∧ sp [y, x] H (fun v H' => ∃ b, v = .bl b ∧ Q (.bl (!b)) H') E0)
theorem op_neX {f : Addr} {sp : Sp} (N : EqF X.K C) (hs : PySem.W.findIn X.K (.ref C) "__eq__" = some (some (.ref f))) (hf : PySem.W.isFn X.K (.ref f) = true) (F : FnR X.prog X.w X.K X.mg X.base CX0 k f sp) (hr : Room (k + 1) X.A) : OpR X (compareOp .NotEq) (rNeX C sp) := by
  intro pins s σ H x y v u Q I rx ry h
  have run : ∀ (a : Addr) (z : V) (r : Value), RelV z r → sp [V.ref a, z] H (fun v H' => ∃ b, v = .bl b ∧ Q (.bl (!b)) H') E0 →
      wpAny (model X.prog X.w) X.A.in1 (call (.ref f) [.ref a, r]) (fun v s' => ∃ b, v = .bool b ∧ EP X pins σ Q (.bool (!b)) s') X.xe s := fun a z r rz hsp => by
    refine wpAny_call (codeAny_mono (F X.A.in1 X.stack s H [.ref a, r] [.ref a, z] _ E0 hr.in1 I.env0.in1 (.cons rfl (.cons rz .nil)) hsp) fun r s' hq => ?_)
    cases r with
    | error e => exact pass0 pins σ H s e s' I hq
    | ok fl =>
      cases fl with
      | ret u =>
        obtain ⟨v, H', I', rv, c, rfl, q⟩ := I.after hq
        obtain rfl : u = .bool c := rv
        exact ⟨c, rfl, .bl (!c), H', I', rfl, q⟩
      | next => exact False.elim hq
      | brk => exact False.elim hq
      | cont => exact False.elim hq
  rcases h with ⟨a, dx, fs, t, rfl, ea, hy, hsp⟩ | ⟨b, dx, fs, t, rfl, ea, hx, hsp⟩
  · obtain rfl : v = Value.ref a := rx
    obtain ⟨ox, od, J⟩ := inst_at I ea
    show wpAny _ _ (PySem.richCompare .NotEq (.ref a) u) _ _ _
    exact ne_left (by have := hr.units; omega) I.kIn J (bo_of I ry hy) (N.no1 t) N.nf.po N.nf.ne hs hf (run a y u ry hsp)
  · obtain rfl : u = Value.ref b := ry
    obtain ⟨ox, od, J⟩ := inst_at I ea
    obtain ⟨_, _, _, hl, _⟩ := (show ObjOk X.prog X.w H s.heap b (.ins C dx fs) from I.hok b _ ea)
    show wpAny _ _ (PySem.richCompare .NotEq v (.ref b)) _ _ _
    exact ne_right (by have := hr.units; omega) I.kIn J hl (bo_of I rx hx) (N.no t) N.nf.po N.nf.ne hs hf (run b x v rx hsp)
def oNeX (S : DSp) : DO := fun d e M R => (isLn d = true ∧ (tyD e).isSome = true ∧ S [d, e] M (fun d M' => match d with
  | .bl c => R (.bl (!c)) M'
  | _ => False) noX) ∨ (isLn e = true ∧ (tyD d).isSome = true ∧ S [e, d] M (fun d M' => match d with
  | .bl c => R (.bl (!c)) M'
  | _ => False) noX)
theorem e_oNeX (S : DSp) (d e : D) (M : Mem) (R : DR) : oNeX S d e M R = ((isLn d = true ∧ (tyD e).isSome = true ∧ S [d, e] M (fun d M' => match d with
  | .bl c => R (.bl (!c)) M'
  | _ => False) noX) ∨ (isLn e = true ∧ (tyD d).isSome = true ∧ S [e, d] M (fun d M' => match d with
  | .bl c => R (.bl (!c)) M'
  | _ => False) noX)) := propext Iff.rfl
theorem sndO_neX {G : Gx} : SndO G (rNeX G.C (spD G 2 S)) (oNeX S) := fun d e M R H x y Q o i1 i2 h kk => by
  have fin : ∀ M1 H1, Ext M M1 H H1 → ∀ (d : D) M' x H', Own G M' H' → Is G M' H' d x → Ext M M' H H' → (match d with
      | .bl c => R (.bl (!c)) M'
      | _ => False) → ∃ b, x = V.bl b ∧ Q (.bl (!b)) H' := fun _ _ _ d M' x H' o' i' e' h' => by
    cases d with
    | bl c =>
      unfold Is at i'
      exact ⟨c, i', kk _ M' _ H' o' is_bl e' h'⟩
    | _ => exact False.elim h'
  rcases h with ⟨h1, h2, h3⟩ | ⟨h1, h2, h3⟩
  · obtain ⟨a, dx, q, ex, hx⟩ := ln_at i1 h1
    obtain ⟨t, ht⟩ := Option.isSome_iff_exists.mp h2
    exact .inl ⟨a, dx, _, t, ex, hx, bv_of i2 ht, spD_of rfl i1 o (IsL.cons i2 IsL.nil) Ext.refl Ext.refl h3 (fin _ _ Ext.refl) _⟩
  · obtain ⟨a, dx, q, ex, hx⟩ := ln_at i2 h1
    obtain ⟨t, ht⟩ := Option.isSome_iff_exists.mp h2
    exact .inr ⟨a, dx, _, t, ex, hx, bv_of i1 ht, spD_of rfl i2 o (IsL.cons i1 IsL.nil) Ext.refl Ext.refl h3 (fin _ _ Ext.refl) _⟩
theorem c_neX (N : EqF X.K C) (h : UOk X.prog X.w X.K X.mg X.base C k "__eq__" 2 S) (hr : Room j X.A) (hkj : k + 1 ≤ j) : CmpQ X C .NotEq (oNeX S) := by
  obtain ⟨f, fd, ps, hm, hf, F, hb⟩ := h.ex
  exact ⟨_, op_neX N hm hf (raw0 F hb) (hr.mono hkj), sndO_neX⟩
end
end Dl
namespace Dl
open PySem L2
/-! ### class methods and operators of lines that may raise -/
section
variable {X : Cx} {C : Addr} {j k n : Nat} {S : DSp} {Sx : DSx} {o e fe : Expr} {es : List Expr} {m : Str} {pos apos : Pos} {f g p : Addr} {fd : FuncData} {ps : List Str} {sp : Sp} {ta tb : TE} {t : TA} {mc : Value}
theorem run_cmW {pins : List (Addr × Obj)} {σ : St} {H : Hp} {s : Shared} {Q : VK} {E : XK} {q : Addr} {us : List Value} {vs : List V} (F : FnOk X.prog X.w X.K X.mg X.base (CXp X.prog X.w) k g fd ps sp) (hr : Room k X.A) (hb : Binds X.K fd ps [])
    (I : Inv X ((q, PySem.W.methodObj (.ref g) (.ref C)) :: pins) σ H s) (r : Vals vs us) (h : sp (V.ref C :: vs) H Q E) (hW : ∀ cls d H', E cls d H' → wX X cls d σ H') : wpAny (model X.prog X.w) X.A (call (.ref q) us) (EP X pins σ Q) X.xe s := by
  have z : wpAny (model X.prog X.w) X.A (call (.ref q) us) (EP X ((q, PySem.W.methodObj (.ref g) (.ref C)) :: pins) σ Q) X.xe s :=
    wpAny_call (PySem.W.method_call (ClX.pin_at I) (code_selfW (a := C) F hr hb r I h hW))
  exact thn z fun _ _ y => ClX.unpinE y
def tCMethW (X : Cx) (C : Addr) (sp : Sp) (ta : TE) (t : TA) : TE := fun σ H Q => ta σ H fun x H1 => x = .ref C ∧ t σ H1 fun vs H2 => ∃ E : XK, sp (.ref C :: vs) H2 Q E ∧ ∀ cls d H', E cls d H' → wX X cls d σ H'
theorem pe_cmethW {pl : Sem Bool} (he : PE X o ta) (r : ClX.CRead X.K C mc) (c : ClX.CMet X.K C mc m p g) (F : FnOk X.prog X.w X.K X.mg X.base (CXp X.prog X.w) k g fd ps sp) (hr : Room k X.A) (hb : Binds X.K fd ps []) (ha : PA X (e :: es) t)
    (hst : starEach (e :: es) X.env = (false, eval e X.env) :: starEach es X.env := by rfl) (hpl : (backTo pos (starEach es X.env)).any (·.1) = false := by rfl)
    (ht : eval (.Call (.Attribute o m apos) (e :: es) [] pos) X.env = (do
      let ov ← eval o X.env
      standAt apos.atName
      let (f, first) ← holding [ov] (getMethod ov m pl)
      callWith pos f first (backTo pos (starEach (e :: es) X.env)) (backToKw pos (keywordEach [] X.env))) := by rfl) :
    PE X (.Call (.Attribute o m apos) (e :: es) [] pos) (tCMethW X C sp ta t) := by
  refine ⟨fun pins s σ H Q I h => ?_⟩
  refine PySem.W.methodCall_KW (pl := pl) (thn (he.run pins s σ H _ I h) fun u s1 ⟨x, H1, I1, rx, ex, q⟩ => ?_) ht
  subst ex
  obtain rfl : u = Value.ref C := rx
  refine ClX.getmethcm_ok I1 r c fun s2 I2 => ?_
  refine ClX.callwith_cm I2 (ClX.base_none I1 (Nat.le_refl _)) c.fi (thn (ha.run pos _ s2 σ H1 _ I2 q) fun us s3 ⟨vs, H2, I3, rv, E, q2, hW⟩ => ⟨⟨ClX.pin_at I3, I3.kIn⟩, ?_⟩) hst hpl
  exact run_cmW F hr hb I3 rv q2 hW
structure CMOkX (P : Program) (w : World) (K : PySem.W.Frag) (mg : Str → Option Value) (base : Heap) (C : Addr) (k : Nat) (m : Str) (n : Nat) (S : DSp) (Sx : DSx) : Prop where
  ex : ∃ (mc : Value) (p g : Addr) (fd : FuncData) (ps : List Str), ClX.CRead K C mc ∧ ClX.CMet K C mc m p g ∧ FnOk P w K mg base (CXp P w) k g fd ps (spU ⟨K, C⟩ n S Sx) ∧ Binds K fd ps []
def vCmX (n : Nat) (S : DSp) (Sx : DSx) (o : DEX) (a : DAX) : DEX := fun γ M R Xd => o γ M (fun d M1 => isCls d = true ∧ a γ M1 (fun ds M2 => ds.length + 1 = n ∧ (S (.cls :: ds) M2 R noX ∨ Sx (.cls :: ds) M2 Xd)) Xd) Xd
theorem e_vCmX (n : Nat) (S : DSp) (Sx : DSx) (o : DEX) (a : DAX) (γ : Gm) (M : Mem) (R : DR) (Xd : DX) : vCmX n S Sx o a γ M R Xd = (o γ M (fun d M1 => isCls d = true ∧ a γ M1 (fun ds M2 => ds.length + 1 = n ∧ (S (.cls :: ds) M2 R noX ∨ Sx (.cls :: ds) M2 Xd)) Xd) Xd) := propext Iff.rfl
theorem q_cmethX {vo : DEX} {va : DAX} (h : CMOkX X.prog X.w X.K X.mg X.base C k m n S Sx) (hr : Room j X.A) (hkj : k ≤ j) (ho : QEX X C o vo) (ha : QAX X C (e :: es) va)
    (hpe : ∀ {mc : Value} {p g : Addr} {fd : FuncData} {ps : List Str} {sp : Sp} {to : TE} {ta : TA}, PE X o to → ClX.CRead X.K C mc → ClX.CMet X.K C mc m p g → FnOk X.prog X.w X.K X.mg X.base (CXp X.prog X.w) k g fd ps sp → Room k X.A → Binds X.K fd ps [] → PA X (e :: es) ta → PE X (.Call (.Attribute o m apos) (e :: es) [] pos) (tCMethW X C sp to ta) := by exact fun h1 h2 h3 h4 h5 h6 h7 => pe_cmethW h1 h2 h3 h4 h5 h6 h7) :
    QEX X C (.Call (.Attribute o m apos) (e :: es) [] pos) (vCmX n S Sx vo va) := by
  obtain ⟨mc, p, g, fd, ps, cr, cm, F, hb⟩ := h.ex
  obtain ⟨to, po, so⟩ := ho.ex
  obtain ⟨ta, pa, sa⟩ := ha.ex
  refine ⟨_, hpe po cr cm F (hr.mono hkj) hb pa, fun γ M R Xd σ H Q r h kk kx => so γ M _ Xd σ H _ r h (fun d M1 x H1 o1 i1 e1 h1 => ?_) kx⟩
  obtain ⟨hd, h1⟩ := h1
  cases d with
  | cls =>
    have i1' := i1
    unfold Is at i1
    refine ⟨i1, sa γ M1 _ Xd σ H1 _ (r.mk' e1 o1) h1 (fun ds M2 xs H2 o2 i2 e2 h2 => ?_) (kx.ext e1)⟩
    rw [← i1]
    exact spU_of (ds := .cls :: ds) h2.1 o2 (IsL.cons (Is.ext e2 _ x i1') i2) h2.2 (fun d3 M3 y H3 o3 i3 e3 h3 => kk d3 M3 y H3 o3 i3 ((e1.trans e2).trans e3) h3) (kx.ext (e1.trans e2))
  | _ => cases hd
/-! an operator of a line -/
structure BinX (K : PySem.W.Frag) (C : Addr) (op : Operator) : Prop where
  b : BinF K C op
  all : ∀ t : Ty, (PySem.W.findIn K (.type t.nm) (PySem.dunder op.info.2)).isSome = true ∧ (PySem.W.findIn K (.type t.nm) (dunderR op.info.2)).isSome = true
def binxB (K : PySem.W.Frag) (C : Addr) (op : Operator) : Bool := binB K C op && tysL.all fun t => (PySem.W.findIn K (.type t.nm) (PySem.dunder op.info.2)).isSome && (PySem.W.findIn K (.type t.nm) (dunderR op.info.2)).isSome
theorem binxB_ok {K : PySem.W.Frag} {C : Addr} {op : Operator} (h : binxB K C op = true) : BinX K C op := ⟨binB_ok (He.ba h).1, fun t => by
  have q := List.all_eq_true.mp (He.ba h).2 t (by cases t <;> simp [tysL])
  exact He.ba q⟩
theorem sub_none (K : PySem.W.Frag) (C : Addr) (t : Ty) : PySem.W.subIn K (.type t.nm) (.ref C) = some false := by
  cases t <;> rfl
end
section
open PySem PySem.Calls PyProof.Rows PySem.W
variable {prog : Program} {w : World} {A : Around} {E : Value → Shared → Prop} {s : Shared} {K : Frag} {x C f L : Addr} {ox : Obj} {od : Option Obj} {T : String} {h₀ : Heap} {m : Str → Option Value} {b : Value}
theorem BO.keeps {s' : Shared} {u : Value} (B : BO s u T) (k : ∀ b o, s.heap.get? b = some o → s'.heap.get? b = some o) : BO s' u T := by
  cases B with
  | non => exact .non
  | bl b => exact .bl b
  | int i t => exact .int i t
  | str x t => exact .str x t
  | lst e => exact .lst (k _ _ e)
  | tup e => exact .tup (k _ _ e)
  | dct e => obtain ⟨o, e, q⟩ := e; exact .dct ⟨o, k _ _ e, q⟩
theorem BO.looks {M : Model} {u : Value} (B : BO s u T) : Looks M s.heap (typeOf u) (.type T) := by
  intro A Q E s' k q
  exact wpAny_typeOf (B.keeps (s' := s') k).ty q
theorem ksp_binV {op : Operator} {fo ro rc : Option Value} {Q : Value → Shared → Prop} (X : K.In s.heap) (I : InstAt s.heap x ox C od) (B : BO s b T) (hc : selfFirst K C = true)
    (hs : findIn K (.ref C) (PySem.dunder op.info.2) = some (some (.ref f))) (hf : isFn K (.ref f) = true) (hr : findIn K (.ref C) (dunderR op.info.2) = some rc) (hp : rc = none ∨ ∃ g : Addr, rc = some (.ref g))
    (h1 : findIn K (.type T) (PySem.dunder op.info.2) = some fo) (h2 : findIn K (.type T) (dunderR op.info.2) = some ro) (hsub : subIn K (.type T) (.ref C) = some false)
    (h : wpAny (model prog w) A (call (.ref f) [.ref x, b]) (W.CmpBack Q) E s) : wpAny (model prog w) A (binaryOp op (.ref x) b) Q E s := by
  obtain ⟨cd, rest, hcd, hm⟩ := ksp_first hc
  have L2 : Looks (model prog w) s.heap (typeOf b) (.type T) := B.looks
  rcases hi : op.info with ⟨sym, nm'⟩
  rw [hi] at hs hr h1 h2
  dsimp only at hs hr h1 h2
  have one := ksp_try X I hs hf h
  obtain ⟨hh, g, d, tt, os⟩ := s
  have L1 : Looks (model prog w) hh (typeOf (.ref x)) (.ref C) := I.type
  have L2 : Looks (model prog w) hh (typeOf b) (.type T) := L2
  have L3 : Looks (model prog w) hh (fillsNumberSlot (.ref C) nm') true := fills_K X hcd hm hs
  have L4 : Looks (model prog w) hh (fillsNumberSlot (.type T) nm') ((fo.isSome && !isSeqSlot fo) || (ro.isSome && !isSeqSlot ro)) := ksp_fillsT X h1 h2
  have L5 : Looks (model prog w) hh (isSubtype (.type T) (.ref C)) false := looks_subIn X hsub
  have L6 : Looks (model prog w) hh (numberSlotInPython (.ref C) nm') true := ksp_inPy X hs hr hp
  have L7 : Looks (model prog w) hh (numberSlotInPython (.type T) nm') false := Looks.of_pure rfl
  have L8 : Looks (model prog w) hh (typeLookup (.type T) (dunderR nm')) ro := looks_findIn X h2
  generalize ((fo.isSome && !isSeqSlot fo) || (ro.isSome && !isSeqSlot ro)) = right at L4
  have hne : (Value.ref C == Value.type T) = false := Bool.eq_false_iff.mpr fun q => by cases beq_iff_eq.mp q
  simp only [binaryOp, hi]
  refine wpAny_holding (wpAny_bind ?_)
  unfold binaryOp1
  refine wpAny_bind (L1.at (wpAny_bind (L2.at (wpAny_bind (L3.at ?_)))))
  simp only [hne, Bool.false_eq_true, if_false]
  cases right with
  | false =>
    ksp_lk
    refine wpAny_mono one (fun r s' hr' => ?_) fun _ _ e => e
    obtain ⟨v, rfl, hq⟩ := hr'
    ksp_lk
    exact hq
  | true =>
    ksp_lk
    refine wpAny_mono one (fun r s' hr' => ?_) fun _ _ e => e
    obtain ⟨v, rfl, hq⟩ := hr'
    ksp_lk
    exact hq
end
section
variable {X : Cx} {C : Addr} {j k n : Nat} {S : DSp} {Sx : DSx} {o e fe : Expr} {es : List Expr} {m : Str} {pos apos : Pos} {f g p : Addr} {fd : FuncData} {ps : List Str} {sp : Sp} {ta tb : TE} {t : TA} {mc : Value}
def tBinW (X : Cx) (C : Addr) (sp : Sp) (ta tb : TE) : TE := fun σ H Q => ta σ H fun x H1 => tb σ H1 fun y H2 => ∃ a dx fs t, x = .ref a ∧ H2 a = some (.ins C dx fs) ∧ BV H2 y t ∧ ∃ E : XK, sp [x, y] H2 Q E ∧ ∀ cls d H', E cls d H' → wX X cls d σ H'
theorem pe_binW {op : Operator} (B : BinX X.K C op) (hs : PySem.W.findIn X.K (.ref C) (PySem.dunder op.info.2) = some (some (.ref f))) (hf : PySem.W.isFn X.K (.ref f) = true) (F : FnOk X.prog X.w X.K X.mg X.base (CXp X.prog X.w) k f fd ps sp) (hr : Room k X.A) (hb : Binds X.K fd ps [])
    (pa : PE X o ta) (pb : PE X e tb) : PE X (.BinOp o op e pos) (tBinW X C sp ta tb) := by
  refine ⟨fun pins s σ H Q I h => wpAny_BinOp (binT pa pb I h fun v u s2 x y H2 I2 rx ry q => ?_)⟩
  obtain ⟨a, dx, fs, t, rfl, ea, hy, E, hsp, hW⟩ := q
  obtain rfl : v = Value.ref a := rx
  obtain ⟨ox, od, J⟩ := inst_at I2 ea
  obtain ⟨⟨fo, h1⟩, ⟨ro, h2⟩⟩ := (⟨Option.isSome_iff_exists.mp (B.all t).1, Option.isSome_iff_exists.mp (B.all t).2⟩ : _ ∧ _)
  refine ksp_binV I2.kIn J (bo_of I2 ry hy) B.b.first hs hf B.b.r (.inl rfl) h1 h2 (sub_none _ _ _) ?_
  exact wpAny_mono (run_selfW F hr hb (.cons ry .nil) I2 hsp hW) (fun v s' z => cmpBack z) fun _ _ z => z
structure UOkX (P : Program) (w : World) (K : PySem.W.Frag) (mg : Str → Option Value) (base : Heap) (C : Addr) (k : Nat) (m : Str) (n : Nat) (S : DSp) (Sx : DSx) : Prop where
  ex : ∃ (f : Addr) (fd : FuncData) (ps : List Str), PySem.W.findIn K (.ref C) m = some (some (.ref f)) ∧ PySem.W.isFn K (.ref f) = true ∧ FnOk P w K mg base (CXp P w) k f fd ps (spU ⟨K, C⟩ n S Sx) ∧ Binds K fd ps []
def vBinX (S : DSp) (Sx : DSx) (o a : DEX) : DEX := fun γ M R Xd => o γ M (fun d M1 => a γ M1 (fun e M2 => isLn d = true ∧ (tyD e).isSome = true ∧ (S [d, e] M2 R noX ∨ Sx [d, e] M2 Xd)) Xd) Xd
theorem e_vBinX (S : DSp) (Sx : DSx) (o a : DEX) (γ : Gm) (M : Mem) (R : DR) (Xd : DX) : vBinX S Sx o a γ M R Xd = (o γ M (fun d M1 => a γ M1 (fun e M2 => isLn d = true ∧ (tyD e).isSome = true ∧ (S [d, e] M2 R noX ∨ Sx [d, e] M2 Xd)) Xd) Xd) := propext Iff.rfl
theorem q_binX {op : Operator} {vo va : DEX} (h : UOkX X.prog X.w X.K X.mg X.base C k (PySem.dunder op.info.2) 2 S Sx) (B : BinX X.K C op) (hr : Room j X.A) (hkj : k ≤ j) (ho : QEX X C o vo) (he : QEX X C e va) : QEX X C (.BinOp o op e pos) (vBinX S Sx vo va) := by
  obtain ⟨f, fd, ps, hm, hf, F, hb⟩ := h.ex
  obtain ⟨to, po, so⟩ := ho.ex
  obtain ⟨ta, pa, sa⟩ := he.ex
  refine ⟨_, pe_binW B hm hf F (hr.mono hkj) hb po pa, fun γ M R Xd σ H Q r h kk kx => so γ M _ Xd σ H _ r h (fun d M1 x H1 o1 i1 e1 h1 => ?_) kx⟩
  refine sa γ M1 _ Xd σ H1 _ (r.mk' e1 o1) h1 (fun e M2 y H2 o2 i2 e2 h2 => ?_) (kx.ext e1)
  obtain ⟨hd, ht, h2⟩ := h2
  have i1' := Is.ext e2 d x i1
  obtain ⟨a, dx, q, ex, hx⟩ := ln_at i1' hd
  obtain ⟨t, ht⟩ := Option.isSome_iff_exists.mp ht
  exact ⟨a, dx, _, t, ex, hx, bv_of i2 ht, spU_of (ds := [d, e]) (xs := [x, y]) rfl o2 (IsL.cons i1' (IsL.cons i2 IsL.nil)) h2 (fun d3 M3 y H3 o3 i3 e3 h3 => kk d3 M3 y H3 o3 i3 ((e1.trans e2).trans e3) h3) (kx.ext (e1.trans e2))⟩
end
end Dl

/-! != of two lists, item by item equal -/
namespace GQ
open PySem PySem.SeqAt
open AutoSeq1 (wpAny_loadPart')
open MeetsSeq MeetsSeq2 MeetsSeq3 SeqRoads2
section
variable {prog : Program} {w : World} {A : Around} {R : Result → Shared → Prop}
theorem ne_loopG (l b : Addr) (N : Nat) (I : Nat → Shared → Prop) (hl : ListI prog w A (fun e s' => R (.error e) s') l b N I)
    (fin : ∀ s, I N s → R (.ok (.ret (.bool false))) s) (k : Nat) :
    ∀ i : Nat, N - i = k → i ≤ N → ∀ s, I i s →
      wpAny (model prog w) A.in1 (Builtin.«list.__eq__.loop» ⟨[.ref l, .ref b, rawInt i, rawInt 3], []⟩) (FinOf prog w A R) (fun e s' => R (.error e) s') s := by
  induction k with
  | zero =>
    intro i hk hi s h
    obtain ⟨items, items2, n, n2, hl1, hb1, hs1, hs2, _⟩ := hl _ _ h
    have hi' : i = N := by omega
    have hR : R (.ok (.ret (.bool false))) s := fin s (hi' ▸ h)
    obtain ⟨hp, g, d, tk, os⟩ := s
    wp_walk using wpAny_loadPart' hl1, wpAny_loadPart' hb1
    have hi1 : items[((i : Nat) : Int).toNat]? = none := by simp; omega
    have hi2 : items2[((i : Nat) : Int).toNat]? = none := by simp; omega
    rw [hi1, hi2]
    wp_walk using wpAny_loadPart' hl1, wpAny_loadPart' hb1
    show R (.ok (.ret (.bool (items.size != items2.size)))) _
    rw [hs1, hs2]
    simpa using hR
  | succ k ih =>
    intro i hk hi s h
    obtain ⟨items, items2, n, n2, hl1, hb1, hs1, hs2, turn⟩ := hl _ _ h
    have hlt : i < items.size := by omega
    have hlt2 : i < items2.size := by omega
    have ht := turn hlt hlt2
    obtain ⟨hp, g, d, tk, os⟩ := s
    wp_walk using wpAny_loadPart' hl1, wpAny_loadPart' hb1
    have hi1 : items[((i : Nat) : Int).toNat]? = some items[i] := by simp [hlt]
    have hi2 : items2[((i : Nat) : Int).toNat]? = some items2[i] := by simp [hlt2]
    have hc : ((i : Int) + 1) = ((i + 1 : Nat) : Int) := by omega
    rw [hi1, hi2]
    refine wpAny_bind (wpAny_mono ht (fun r s2 h2 => ?_) fun _ _ x => x)
    obtain ⟨hr, h2⟩ := h2
    subst hr
    have hrec := ih (i + 1) (by omega) (by omega) s2 h2
    obtain ⟨hp2, g2, d2, tk2, os2⟩ := s2
    wp_walk
    rw [hc]
    exact ⟨plainId_quiet plain_eq_loop _, codeAny_builtin entry_eq_loop (by
      rw [Around.under_plainId plain_eq_loop _]
      exact hrec)⟩
theorem list_neG (l b : Addr) (N : Nat) (I : Nat → Shared → Prop) (hl : ListI prog w A (fun e s' => R (.error e) s') l b N I)
    (fin : ∀ s, I N s → R (.ok (.ret (.bool false))) s) {s : Shared} (h : I 0 s) :
    wpAny (model prog w) A.in1 (Builtin.«list.__ne__» ⟨[.ref l, .ref b], []⟩) (FinOf prog w A R) (fun e s' => R (.error e) s') s := by
  obtain ⟨items, items2, n, n2, hl1, hb1, hs1, hs2, _⟩ := hl _ _ h
  have hrec := ne_loopG (A := A) (R := R) l b N I hl fin _ 0 rfl (Nat.zero_le _) s h
  obtain ⟨hp, g, d, tk, os⟩ := s
  have f3 := AutoSeq1.sub_list_list
  have hne : ¬ (items.size != items2.size) = true := by simp [hs1, hs2]
  wp_walk using wpAny_loadPart' hl1, wpAny_loadPart' hb1
  exact ⟨plainId_quiet plain_eq_loop _, codeAny_builtin entry_eq_loop (by
    rw [Around.under_plainId plain_eq_loop _]
    exact hrec)⟩
end
section
variable {prog : Program} {w : World} {A : Around} {E : Value → Shared → Prop} {s : Shared}
theorem rc_listNe {l b : Addr} {N : Nat} {Q : Value → Shared → Prop} (hu : A.units < cLine) (I : Nat → Shared → Prop) (hl : ListI prog w A E l b N I)
    (fin : ∀ s, I N s → Q (.bool false) s) (h : I 0 s) : wpAny (model prog w) A (richCompare .NotEq (.ref l) (.ref b)) Q E s := by
  obtain ⟨items, items2, n, n2, hl1, hb1, _, _, _⟩ := hl _ _ h
  refine wpAny_richCompare_same_room (op := .NotEq) ⟨_, hl1, rfl⟩ ⟨_, hb1, rfl⟩ F.slot_list_ne (call_here F.slot_list_ne ⟨_, hl1, rfl⟩ F.entry_list_ne (F.args_list_ne_2 _ _) ?_) hu
  exact list_neG (R := wants (fun v s' => v ≠ .notImplemented ∧ Q v s') E) l b N I hl (fun s' q => ⟨(fun x => nomatch x), fin s' q⟩) h
end
end GQ
namespace L2
open PySem PySem.Spec PyProof.Rows
section
variable {X : Cx} {n : Nat} {D : Eqv}
def rNeG (D : Eqv) : R2 := fun x y H Q => DList D x y H ∧ ∀ H', Ext H H' → Q (.bl false) H'
theorem op_neG (hD : Mon D) (h : EqG X n D) (hr : Room (n + 1) X.A) : OpR X (compareOp .NotEq) (rNeG D) := by
  intro pins s σ H x y u v Q I rx ry hq
  obtain ⟨⟨a, b, xs, ys, rfl, rfl, ha, hb, p⟩, hq⟩ := hq
  cases rx
  cases ry
  show wpAny (model X.prog X.w) X.A (richCompare .NotEq _ _) (EP X pins σ Q) X.xe s
  refine GQ.rc_listNe (N := xs.length) hr.units0 (fun _ s' => LoopI X pins σ H s') (fun i s' q => ?_) (fun s' q => ?_) ⟨H, I, Ext.rfl'⟩
  · obtain ⟨H1, I1, e1⟩ := id q
    obtain ⟨z, its, k, r, e⟩ := I1.hok a _ (e1 _ _ ha)
    obtain ⟨z2, its2, k2, r2, e2⟩ := I1.hok b _ (e1 _ _ hb)
    refine ⟨its.toArray, its2.toArray, k, k2, e, e2, by rw [List.size_toArray, ← r.length], by rw [List.size_toArray, ← r2.length, ← p.1], fun h1 h2 => ?_⟩
    exact turnG hD h ⟨hr, rfl⟩ p r r2 i h1 h2 s' q
  · obtain ⟨H', I', e⟩ := q
    exact ⟨.bl false, H', I', rfl, hq H' e⟩
end
end L2
namespace Dl
open PySem L2
/-! ### != of two lists of lines that are equal one by one -/
def mem0 : Mem := fun _ => none
theorem ext0 {H H' : Hp} (e : L2.Ext H H') : Dl.Ext mem0 mem0 H H' := ⟨fun a o _ h => ⟨e _ _ h, rfl⟩, fun _ h => by cases h⟩
theorem ext1 {M' : Mem} {H H' : Hp} (x : Dl.Ext mem0 M' H H') : L2.Ext H H' := fun a o h => (x.st a o rfl h).1
theorem own0 {G : Gx} {H : Hp} : Own G mem0 H := fun a m e => by cases e
theorem ln0 {G : Gx} {M : Mem} {H : Hp} {t p o : Int} {v : V} (h : Is G M H (.ln t p o) v) : Is G mem0 H (.ln t p o) v := by
  unfold Is at h ⊢
  obtain ⟨a, dx, q, e, _, ha, _, hq⟩ := h
  exact ⟨a, dx, q, e, rfl, ha, rfl, hq⟩
abbrev L3 : Type := Int × Int × Int
def l3D (x : L3) : D := .ln x.1 x.2.1 x.2.2
/-- the own == says that they are equal -/
def EqS (S : DSp) (x y : L3) : Prop := S [l3D x, l3D y] mem0 (fun d _ => d = .bl true) noX
def EqLn (G : Gx) (S : DSp) (a b : Addr) (H : Hp) : Prop := ∃ x y : L3, Is G mem0 H (l3D x) (.ref a) ∧ Is G mem0 H (l3D y) (.ref b) ∧ EqS S x y
theorem eqLn_mono {G : Gx} {S : DSp} (a b : Addr) (H H' : Hp) (e : L2.Ext H H') (h : EqLn G S a b H) : EqLn G S a b H' := by
  obtain ⟨x, y, h1, h2, h3⟩ := h
  exact ⟨x, y, Is.ext (ext0 e) _ _ h1, Is.ext (ext0 e) _ _ h2, h3⟩
theorem spEq_to {G : Gx} {S : DSp} {vs : List V} {H : Hp} {Q : VK} {E : XK} (h : spEq (EqLn G S) vs H Q E) : spD G 2 S vs H Q E := by
  obtain ⟨a, b, rfl, ⟨x, y, h1, h2, h3⟩, hq⟩ := h
  refine ⟨[l3D x, l3D y], mem0, _, rfl, IsL.cons h1 (IsL.cons h2 IsL.nil), own0, h3, fun d M' v H' o' i' e' hd => ?_⟩
  subst hd
  unfold Is at i'
  subst i'
  exact hq H' (ext1 e')
section
variable {X : Cx} {C : Addr} {j k : Nat} {S : DSp}
def oNeLs (S : DSp) : DO := fun d e M R => ∃ (a b : Addr) (xs ys : List L3), d = .own a ∧ e = .own b ∧ M a = some (.lst (xs.map l3D)) ∧ M b = some (.lst (ys.map l3D)) ∧ xs.length = ys.length ∧ (∀ (i : Nat) (x y : L3), xs[i]? = some x → ys[i]? = some y → EqS S x y) ∧ R (.bl false) M
theorem e_oNeLs (S : DSp) (d e : D) (M : Mem) (R : DR) : oNeLs S d e M R = (∃ (a b : Addr) (xs ys : List L3), d = .own a ∧ e = .own b ∧ M a = some (.lst (xs.map l3D)) ∧ M b = some (.lst (ys.map l3D)) ∧ xs.length = ys.length ∧ (∀ (i : Nat) (x y : L3), xs[i]? = some x → ys[i]? = some y → EqS S x y) ∧ R (.bl false) M) := propext Iff.rfl
theorem isL_back {G : Gx} {M : Mem} {H : Hp} : ∀ {ds : List D} {vs : List V} {i : Nat} {v : V}, IsL G M H ds vs → vs[i]? = some v → ∃ d, ds[i]? = some d ∧ Is G M H d v
  | [], [], i, v, _, e => by simp at e
  | [], _ :: _, _, _, h, _ => by unfold IsL at h; exact h.elim
  | _ :: _, [], _, _, h, _ => by unfold IsL at h; exact h.elim
  | d :: ds, x :: xs, 0, v, h, e => by
    unfold IsL at h
    simp at e; subst e
    exact ⟨d, rfl, h.1⟩
  | d :: ds, x :: xs, i + 1, v, h, e => by
    unfold IsL at h
    obtain ⟨d', h1, h2⟩ := isL_back (i := i) h.2 (by simpa using e)
    exact ⟨d', by simpa using h1, h2⟩
theorem isL_len2 {G : Gx} {M : Mem} {H : Hp} : ∀ {ds : List D} {vs : List V}, IsL G M H ds vs → ds.length = vs.length
  | [], [], _ => rfl
  | [], _ :: _, h => by unfold IsL at h; exact h.elim
  | _ :: _, [], h => by unfold IsL at h; exact h.elim
  | _ :: ds, _ :: xs, h => by
    unfold IsL at h
    rw [List.length_cons, List.length_cons, isL_len2 h.2]
theorem sndO_neLs {G : Gx} : SndO G (rNeG (DIns G.C (EqLn G S))) (oNeLs S) := fun d e M R H x y Q o i1 i2 h kk => by
  obtain ⟨a, b, xs, ys, rfl, rfl, ha, hb, hl, he, hR⟩ := h
  unfold Is at i1 i2
  obtain ⟨rfl, _⟩ := i1
  obtain ⟨rfl, _⟩ := i2
  obtain ⟨_, us, hau, hil⟩ := o a _ ha
  obtain ⟨_, ws, hbu, hjl⟩ := o b _ hb
  have l1 := isL_len2 hil
  have l2 := isL_len2 hjl
  rw [List.length_map] at l1 l2
  refine ⟨⟨a, b, us, ws, rfl, rfl, hau, hbu, by omega, fun i u w h1 h2 => ?_⟩, fun H' ex => ?_⟩
  · obtain ⟨d1, q1, j1⟩ := isL_back hil h1
    obtain ⟨d2, q2, j2⟩ := isL_back hjl h2
    rw [List.getElem?_map, Option.map_eq_some_iff] at q1 q2
    obtain ⟨x, q1, rfl⟩ := q1
    obtain ⟨y, q2, rfl⟩ := q2
    have k1 := ln0 j1
    have k2 := ln0 j2
    obtain ⟨a1, dx1, p1, e1, _, g1, _⟩ := (show ∃ a dx q, u = .ref a ∧ mem0 a = none ∧ H a = some (.ins G.C dx (fLine q)) ∧ mem0 q = none ∧ H q = some (.tup [.int x.1, .int x.2.1, .int x.2.2]) by unfold Is at k1; exact k1)
    obtain ⟨a2, dx2, p2, e2, _, g2, _⟩ := (show ∃ a dx q, w = .ref a ∧ mem0 a = none ∧ H a = some (.ins G.C dx (fLine q)) ∧ mem0 q = none ∧ H q = some (.tup [.int y.1, .int y.2.1, .int y.2.2]) by unfold Is at k2; exact k2)
    subst e1
    subst e2
    exact ⟨a1, a2, dx1, dx2, _, _, rfl, rfl, g1, g2, x, y, k1, k2, he i x y q1 q2⟩
  · have ext : Dl.Ext M M H H' := ⟨fun c u m z => ⟨ex _ _ z, m⟩, fun _ z => z⟩
    refine kk _ M _ H' (o.ext ext fun c hc => ?_) is_bl ext hR
    obtain ⟨u, hu⟩ := o.there hc
    rw [hu, ex _ _ hu]
theorem c_neLs (h : UOk X.prog X.w X.K X.mg X.base C k "__eq__" 2 S) (hr : Room j X.A) (hkj : k + 1 ≤ j) : CmpQ X C .NotEq (oNeLs S) := by
  obtain ⟨f, fd, ps, hm, hf, F, hb⟩ := h.ex
  have F2 : FnOk X.prog X.w X.K X.mg X.base CX0 k f fd ps (spEq (EqLn ⟨X.K, C⟩ S)) := F.imp fun vs H Q E z => spEq_to z
  exact ⟨_, op_neG (mon_ins fun a b H H' e => eqLn_mono a b H H' e) (eqG_ins (E := E0) F2 hm hf hb pass0) (hr.mono hkj), sndO_neLs⟩
end
end Dl
namespace PySem
namespace HandSPX
open Builtin Builtin.ObjectAttr
section
variable {M : Model} {A : Around} {E : Value → Shared → Prop} {h : Heap} {g : Array GenState} {d : Drawn} {t : Nat} {os : OsState} {kw : List (Str × Value)}
variable {nm q : Str} {C N : Addr} {bs bm bmB : List Value} {hdct : Bool} {sn : List Str} {sub : List Value} {ab : Bool} {col : Option Bool} {dd : Option Addr} {k0 k1 k2 k3 k5 : Option Value} {B newId initId : String}
theorem check_new_ownK (F : ExcBaseFacts B newId initId bmB) (hT : ∀ X : String, bm.contains (.type X) = bmB.contains (.type X)) {rest : List Value} {Q : Unit → Shared → Prop}
    (hC : h.get? C = some (excClassObj nm q C N bs bm hdct sn sub ab col dd k0 k1 k2 k3 k5 newId)) (hq : Q () ⟨h, g, d, t, os⟩) : wpAny M A (checkBuiltinCall newId ⟨.ref C :: rest, kw⟩) Q E ⟨h, g, d, t, os⟩ := by
  have hcont : (Value.ref C :: bm).contains (.type B) = true := by rw [List.contains_cons, hT, F.hasB, Bool.or_true]
  have hstar := F.noStar
  simp only [checkBuiltinCall, F.newKind, F.newSplit, F.newRow]
  repeat (first | refine wpAny_loadPart_at hC ?_ | (refine wpAny_isSubtype_exc hC ?_; rw [hcont]) | refine wpAny_staticBase_exc hC ?_ | refine wpAny_madeBy_exc hC ?_ | simp only [bne_self_eq_false, Bool.false_eq_true, if_false] | wp_step)
  exact hq
theorem check_tcK {M : Model} {rest : List Value} {Q : Unit → Shared → Prop} (hC : h.get? C = some (excClassObj nm q C N bs bm hdct sn sub ab col dd k0 k1 k2 k3 k5 newId))
    (hq : Q () ⟨h, g, d, t, os⟩) : wpAny M A (checkBuiltinCall "type.__call__" ⟨.ref C :: rest, kw⟩) Q E ⟨h, g, d, t, os⟩ := by
  have f3 := tc_sub
  have hT : (⟨h, g, d, t, os⟩ : Shared).TypeIs (.ref C) "type" := ⟨_, hC, rfl⟩
  simp only [checkBuiltinCall, tc_kind, tc_split]
  repeat (any_goals (first | assumption | with_reducible refine wpAny_loadPart_at hC ?_ | with_reducible refine wpAny_onRaise ?_ | with_reducible refine wpAny_map ?_ | wp_step))
end
section
variable {prog : Program} {w : World} {A : Around} {E : Value → Shared → Prop} {R : Result → Shared → Prop} {h : Heap} {g : Array GenState} {d : Drawn} {t : Nat} {os : OsState} {kw : List (Str × Value)}
variable {nm q : Str} {C N : Addr} {bs bm bmB : List Value} {hdct : Bool} {sn : List Str} {sub : List Value} {ab : Bool} {col : Option Bool} {dd : Option Addr} {k0 k1 k2 k3 k5 : Option Value} {B newId initId : String}
theorem new_ownK (F : ExcBaseFacts B newId initId bmB) (hT : ∀ X : String, bm.contains (.type X) = bmB.contains (.type X)) {rest : List Value}
    (hC : h.get? C = some (excClassObj nm q C N bs bm hdct sn sub ab col dd k0 k1 k2 k3 k5 newId))
    (hq : R (.ok (.ret (.ref (h.objs.size + 1)))) ⟨(h.push { cls := .type "tuple", data := .seq rest.toArray }).push
      { cls := .ref C, data := .fields #[.ref h.objs.size, .none, .none, .none, .bool false, .none] }, g, d, t, os⟩) (hrest : rest.length ≤ sizeLine) :
    codeAny (model prog w) A (.builtin newId ⟨.ref C :: rest, kw⟩) R ⟨h, g, d, t, os⟩ := by
  have hends := F.ends
  have hcB : (Value.ref C :: bm).contains (.type B) = true := by rw [List.contains_cons, hT, F.hasB, Bool.or_true]
  have hcA : (Value.ref C :: bm).contains (.type "AttributeError") = false := by rw [List.contains_cons, hT, F.noAttr]; rfl
  have hcN : (Value.ref C :: bm).contains (.type "NameError") = false := by rw [List.contains_cons, hT, F.noName]; rfl
  refine codeAny_builtinAt F.entry ?_
  unfold Builtin.«BaseException.__new__»
  refine wpAt_bind ?_
  show wpAt _ _ _ (stack >>= _) _ _ _
  refine wpAt_bind (wpAt_stack fun p below => wpAt_of_wpAny ?_)
  wp_walk
  refine wpAt_of_wpAny ?_
  rw [F.owner]
  repeat (first | with_reducible refine wpAny_madeHere_exc F.canon hC ?_ | with_reducible refine wpAny_loadPart_at hC ?_ | (with_reducible refine wpAny_isSubtype_exc hC ?_; first | rw [hcB] | rw [hcA] | rw [hcN]) | wp_step)
  show R _ _
  rw [Heap.size_push]
  exact hq

theorem type_call_ownK (F : ExcBaseFacts B newId initId bmB) (hT : ∀ X : String, bm.contains (.type X) = bmB.contains (.type X)) {rest : List Value} {fI : Addr} {Q : Fin → Shared → Prop}
    (hC : h.get? C = some (excClassObj nm q C N bs bm hdct sn sub ab col dd k0 k1 k2 k3 k5 newId))
    (hi : W.Looks (model prog w) h (typeLookup (.ref C) "__init__") (some (.ref fI))) (hb : ∀ self, W.Looks (model prog w) h (bindSpecial (.ref fI) self) (.ref fI, [self])) (hrest : rest.length ≤ sizeLine)
    (hq : codeAny (model prog w) A (.call (.ref fI) ⟨.ref (h.objs.size + 1) :: rest, kw⟩)
      (fun r s' => match r with | .ok (.ret v) => v = .none ∧ Q (.done (.ret (.ref (h.objs.size + 1)))) s' | .ok _ => False | .error e => E e s')
      ⟨(h.push (W.kdv_tup rest)).push (excO C h.objs.size), g, d, t, os⟩) :
    wpAny (model prog w) A (Builtin.«type.__call__» ⟨.ref C :: rest, kw⟩) Q E ⟨h, g, d, t, os⟩ := by
  repeat (first | with_reducible refine wpAny_loadPart_at hC ?_ | with_reducible refine wpAny_madeBy_exc hC ?_ | wp_step)
  refine codeAny_call_builtin_code (Code.quiet_builtin _ F.quiet) (check_new_ownK F hT hC ?_)
  refine new_ownK F hT hC ?_ hrest
  show wpAny _ _ _ _ _ _
  have k : ∀ b o, h.get? b = some o → ((h.push (W.kdv_tup rest)).push (excO C h.objs.size)).get? b = some o := fun b o e => Heap.get?_push_of_some _ (Heap.get?_push_of_some _ e)
  have hC₁ := k _ _ hC
  have hget : ((h.push (W.kdv_tup rest)).push (excO C h.objs.size)).get? (h.objs.size + 1) = some (excO C h.objs.size) := by heap_get
  have hcC : (Value.ref C :: bm).contains (.ref C) = true := by simp
  have i1 := hi.keeps k
  have b1 := (hb (.ref (h.objs.size + 1))).keeps k
  unfold isInstance
  repeat (first | with_reducible refine wpAny_loadPart_at hget ?_ | (with_reducible refine wpAny_isSubtype_exc hC₁ ?_; rw [hcC]) | wp_step)
  show wpAny _ _ (typeLookup (.ref C) _) _ _ _
  refine i1.at ?_
  refine wpAny_holding (wpAny_bind (b1.at ?_))
  refine wpAny_bind (wpAny_call (codeAny_mono hq fun r s' z => ?_))
  rcases r with e | (v | _ | _ | _) <;> first | exact z | exact z.elim | skip
  obtain ⟨rfl, z⟩ := z
  first
    | exact wpAny_pure (wpAny_pure z)
    | (wp_walk; exact z)

theorem call_ownK (F : ExcBaseFacts B newId initId bmB) (hT : ∀ X : String, bm.contains (.type X) = bmB.contains (.type X)) {rest : List Value} {fI : Addr}
    (hC : h.get? C = some (excClassObj nm q C N bs bm hdct sn sub ab col dd k0 k1 k2 k3 k5 newId))
    (hi : W.Looks (model prog w) h (typeLookup (.ref C) "__init__") (some (.ref fI))) (hb : ∀ self, W.Looks (model prog w) h (bindSpecial (.ref fI) self) (.ref fI, [self])) (hrest : rest.length ≤ sizeLine)
    (hq : codeAny (model prog w) (A.under (.builtin "type.__call__" ⟨.ref C :: rest, kw⟩)) (.call (.ref fI) ⟨.ref (h.objs.size + 1) :: rest, kw⟩) (W.InitBack (h.objs.size + 1) R)
      ⟨(h.push (W.kdv_tup rest)).push (excO C h.objs.size), g, d, t, os⟩) :
    codeAny (model prog w) A (.call (.ref C) ⟨rest, kw⟩) R ⟨h, g, d, t, os⟩ := by
  have f1 := tc_lookup
  have f2 := tc_bind (.ref C)
  have hTy : (⟨h, g, d, t, os⟩ : Shared).TypeIs (.ref C) "type" := ⟨_, hC, rfl⟩
  refine codeAny_of_tree ?_
  show wpAny _ _ (callAny (.ref C) _) _ _ _
  repeat (any_goals (first | assumption | with_reducible refine wpAny_loadPart_at hC ?_ | wp_step))
  refine ⟨rfl, ?_⟩
  refine codeAny_call_builtin_at (Code.quiet_builtin _ (by decide +kernel)) entry_typeCall (check_tcK hC (type_call_ownK F hT hC hi hb hrest ?_))
  refine codeAny_mono hq fun r s' z => ?_
  rcases r with e | (v | _ | _ | _) <;> exact z
end
end HandSPX
end PySem

namespace Dl
open PySem L2
open PySem.Spec PyProof.Rows
section
variable {X : Cx} {o e : Expr} {es : List Expr} {to te : TE} {ta : TA} {f : Str} {p p' p1 p2 pos : Pos}
theorem run_oexV {CX : CXT} {C fI : Addr} {k : Nat} {fd : FuncData} {ps : List Str} {sp : Sp} {pins : List (Addr × Obj)} {σ : L2.St} {H : Hp} {s : Shared} {Q : VK} {us bs : List Value} {ys : List V} {kw : List (Str × Value)}
    (T : OexC X.K C) (iC : PySem.W.findIn X.K (.ref C) "__init__" = some (some (.ref fI))) (tI : PySem.W.typeIn X.K (.ref fI) = some (.type "function"))
    (F1 : FnOk X.prog X.w X.K X.mg X.base CX k fI fd ps sp) (hr : Room (k + 1) X.A) (hb : ∀ (s' : Shared) (self : Value), X.K.In s'.heap → BindsTo s' fd ⟨self :: us, kw⟩ (ps.zip (self :: bs))) (hus : us.length ≤ sizeLine) (rb : Vals ys bs) (hx : Passes CX X (fun _ _ _ => False)) (I : Inv X pins σ H s)
    (h : ∀ a, H a = none → sp (.ref a :: ys) (upd H a (exo a C none)) (fun v H2 => v = .non ∧ ∃ (d : Addr) (fs : List (Str × V)), H2 a = some (exo a C (some d)) ∧ H2 d = some (exd d fs) ∧ H d = none ∧ Q (.ref a) (upd (upd (del H2 a) d (.xd fs)) a (exH C (some d) a))) (fun _ _ _ => False)) :
    wpAny (model X.prog X.w) X.A (call (.ref C) us kw) (EP X pins σ Q) X.xe s := by
  obtain ⟨nm, q, N, bs', bm, sn, sub, ab, col, dd, k0, k1, k2, k3, k5, hC, hbm⟩ := T.cls
  obtain ⟨hp, g, dr, tk, os⟩ := s
  have hsz : hp.objs.size ≤ hp.objs.size + 1 := Nat.le_succ _
  have hn : H (hp.objs.size + 1) = none := I.hok.fresh hsz
  have hq := h (hp.objs.size + 1) hn
  have kk : ∀ b o, hp.get? b = some o → ((hp.push (PySem.W.kdv_tup us)).push (PySem.HandSPX.excO C hp.objs.size)).get? b = some o := fun b o e => Heap.get?_push_of_some _ (Heap.get?_push_of_some _ e)
  have hget : ((hp.push (PySem.W.kdv_tup us)).push (PySem.HandSPX.excO C hp.objs.size)).get? (hp.objs.size + 1) = some (PySem.HandSPX.excO C hp.objs.size) := by heap_get
  have I2 : Inv X pins σ (upd H (hp.objs.size + 1) (exo (hp.objs.size + 1) C none)) ⟨(hp.push (PySem.W.kdv_tup us)).push (PySem.HandSPX.excO C hp.objs.size), g, dr, tk, os⟩ :=
    I.laid (t' := tk) (a := hp.objs.size + 1) (o := exo (hp.objs.size + 1) C none) (h' := (hp.push (PySem.W.kdv_tup us)).push (PySem.HandSPX.excO C hp.objs.size)) kk hsz (exo_ok hget)
  have r2 : Vals (V.ref (hp.objs.size + 1) :: ys) (Value.ref (hp.objs.size + 1) :: bs) := .cons rfl rb
  refine wpAny_call (PySem.HandSPX.call_ownK F.excBase_ValueError (fun Y => PySem.HandSPX.refsVE_contains Y bm hbm) (I.kIn _ _ hC) (PySem.W.looks_findIn I.kIn iC) (fun self => PySem.W.bind_fn I.kIn self tI) hus
    (codeAny_mono (F1.run _ X.stack _ _ ⟨Value.ref (hp.objs.size + 1) :: us, kw⟩ (Value.ref (hp.objs.size + 1) :: bs) _ _ (fun _ _ _ => False) (hr.make C us kw) (I2.env0.make C us kw) (hb _ _ I2.kIn) r2 hq) fun r s' hq' => ?_))
  cases r with
  | error er => exact hx pins σ _ _ er s' I2 hq'
  | ok fl =>
    cases fl with
    | ret u =>
      obtain ⟨v, H2, os2, bare2, un2, hok2, rv, ev, d, fs, ea, ed, hd1, q2⟩ := hq'
      subst ev
      obtain ⟨h2, g2, d2, t2, os'⟩ := s'
      obtain ⟨t0, G, J, kG, ge, hoe, na⟩ := mk_end0 (d2 := d2) (t2 := t2) I hsz kk un2 hok2 os2 bare2 ea ed hd1
      exact ⟨rv, .ref (hp.objs.size + 1), _, J.laidN (t' := t2) (h' := h2) kG ge na (exH_ok hoe ⟨rfl, rfl⟩ rfl), rfl, q2⟩
    | next => exact False.elim hq'
    | brk => exact False.elim hq'
    | cont => exact False.elim hq'
/-- what __init__ makes of it -/
abbrev MkV (C : Addr) (sp : Sp) (ys : List V) (H : Hp) (Q : VK) : Prop := ∀ a, H a = none → sp (.ref a :: ys) (upd H a (exo a C none)) (fun v H2 => v = .non ∧ ∃ (d : Addr) (fs : List (Str × V)), H2 a = some (exo a C (some d)) ∧ H2 d = some (exd d fs) ∧ H d = none ∧ Q (.ref a) (upd (upd (del H2 a) d (.xd fs)) a (exH C (some d) a))) (fun _ _ _ => False)
theorem pe_oexP {CX : CXT} {x : Str} {C fI : Addr} {k : Nat} {fd : FuncData} {ps : List Str} {sp : Sp} (T : OexC X.K C) (iC : PySem.W.findIn X.K (.ref C) "__init__" = some (some (.ref fI))) (tI : PySem.W.typeIn X.K (.ref fI) = some (.type "function"))
    (F1 : FnOk X.prog X.w X.K X.mg X.base CX k fI fd ps sp) (hr : Room (k + 1) X.A) (hb : Binds X.K fd ps []) (hx : Passes CX X (fun _ _ _ => False)) (hg : Gl X x) (hm : X.mg x = some (.ref C)) (ha : PA X (e :: es) ta)
    (hdb : (x == ("__debug__" : Str)) = false := by decide) (he : starEach (e :: es) X.env = (false, eval e X.env) :: starEach es X.env := by rfl) (hpl : (backTo pos (starEach es X.env)).any (·.1) = false := by rfl) :
    PE X (.Call (.Name x p) (e :: es) [] pos) (fun σ H Q => ta σ H fun vs H1 => vs.length ≤ 1000 ∧ vs.length + 1 = ps.length ∧ MkV C sp vs H1 Q) := by
  refine ⟨fun pins s σ H Q I h => ?_⟩
  refine wpAny_Call_Name_kw (ld_glob I hg hm ?_ hdb)
  refine PySem.W.callWith_K (h₀ := X.base) I.ok.mod.kin T.kC (thn (ha.run pos pins s σ H _ I h) fun us s1 ⟨vs, H1, I1, r1, hz, hl, q1⟩ => ⟨I1.kIn, ?_⟩) he hpl
  have hl2 : us.length + 1 = ps.length := by rw [← r1.length]; exact hl
  have hus : us.length ≤ sizeLine := by rw [← r1.length, sizeLine_eq]; omega
  refine run_oexV (us := us) (bs := us) T iC tI F1 hr (fun s' self kin => ?_) hus r1 hx I1 q1
  have z := hb s' (self :: us) kin (by rw [List.append_nil]; exact hl2)
  rw [List.append_nil] at z
  exact z
theorem pe_oex0 {CX : CXT} {x : Str} {C fI : Addr} {k : Nat} {fd : FuncData} {ps : List Str} {sp : Sp} (T : OexC X.K C) (iC : PySem.W.findIn X.K (.ref C) "__init__" = some (some (.ref fI))) (tI : PySem.W.typeIn X.K (.ref fI) = some (.type "function"))
    (F1 : FnOk X.prog X.w X.K X.mg X.base CX k fI fd ps sp) (hr : Room (k + 1) X.A) (hb : Binds X.K fd ps [.none]) (hl : ps.length = 2) (hx : Passes CX X (fun _ _ _ => False)) (hg : Gl X x) (hm : X.mg x = some (.ref C))
    (hdb : (x == ("__debug__" : Str)) = false := by decide) : PE X (.Call (.Name x p) [] [] pos) (fun _ H Q => MkV C sp [.non] H Q) := by
  refine ⟨fun pins s σ H Q I h => ?_⟩
  refine wpAny_Call_Name_kw (ld_glob I hg hm ?_ hdb)
  refine PySem.W.callWith_K0 I.kIn T.kC ?_
  exact run_oexV (us := []) (bs := [.none]) (ys := [.non]) T iC tI F1 hr (fun s' self kin => hb s' [self] kin (by rw [hl]; rfl)) (Nat.zero_le _) (.cons rfl .nil) hx I h
theorem pe_oexK {CX : CXT} {x : Str} {C fI : Addr} {k : Nat} {fd : FuncData} {ps : List Str} {sp : Sp} {kws : List Keyword} {tk : TA} (T : OexC X.K C) (iC : PySem.W.findIn X.K (.ref C) "__init__" = some (some (.ref fI))) (tI : PySem.W.typeIn X.K (.ref fI) = some (.type "function"))
    (F1 : FnOk X.prog X.w X.K X.mg X.base CX k fI fd ps sp) (hr : Room (k + 1) X.A) (hb : ∀ (s' : Shared) (self v : Value), X.K.In s'.heap → BindsTo s' fd ⟨[self], [(f, v)]⟩ (ps.zip [self, v])) (hx : Passes CX X (fun _ _ _ => False)) (hg : Gl X x) (hm : X.mg x = some (.ref C)) (hkw : PK X kws tk)
    (hall : (backToKw pos (keywordEach kws X.env)).all (·.1.isSome) = true := by rfl) (hks : (backToKw pos (keywordEach kws X.env)).filterMap (·.1) = [f] := by rfl) (hdb : (x == ("__debug__" : Str)) = false := by decide)
    (hpl : ((backTo pos (starEach [] X.env)).any (·.1) || (backToKw pos (keywordEach kws X.env)).any (·.1.isNone)) = false := by rfl) :
    PE X (.Call (.Name x p) [] kws pos) (fun σ H Q => tk σ H fun vs H1 => vs.length = 1 ∧ MkV C sp vs H1 Q) := by
  refine ⟨fun pins s σ H Q I h => ?_⟩
  refine wpAny_Call_Name_kw (ld_glob I hg hm ?_ hdb)
  refine PySem.W.callWith_KW0 (h₀ := X.base) I.ok.mod.kin T.kC hall ?_ hpl
  refine thn (hkw.run pos pins s σ H _ I h) fun ws s2 ⟨zs, H2, I2, rz, l1, q2⟩ => ⟨I2.kIn, ?_⟩
  rw [hks]
  have l2 : ws.length = 1 := by rw [← rz.length]; exact l1
  match ws, l2, rz with
  | [w], _, rz => exact run_oexV (us := []) (bs := [w]) T iC tI F1 hr (fun s' self kin => hb s' self w kin) (Nat.zero_le _) rz hx I2 q2
/-- C(), C a class without own __init__ -/
theorem pe_exc00 {D : Addr} {bmB : List Value} {B newId initId : String} {x : Str} (F : ExcBaseFacts B newId initId bmB) (q : PySem.W.excIn X.K D bmB newId = true) (gC : X.mg x = some (.ref D)) (kC : PySem.W.keepIn X.K (.ref D) = true) (hg : Gl X x)
    (hdb : (x == ("__debug__" : Str)) = false := by decide) : PE X (.Call (.Name x p) [] [] pos) (fun _ H Q => ∀ a, H a = none → Q (.ref a) (upd H a (exH D none a))) := by
  refine ⟨fun pins s σ H Q I h => ?_⟩
  refine wpAny_Call_Name_kw (ld_glob I hg gC ?_ hdb)
  refine PySem.W.callWith_K0 I.kIn kC ?_
  show wpAny _ _ (call (.ref D) []) _ _ _
  obtain ⟨bm, N, nm, qn, bs, hdct, sn, sub, ab, col, dd, k0, k1, k2, k3, k5, mN, hC, hN, hni, T⟩ := exc_obj I.kIn q
  refine wpAny_call_exc_subT F T hC hN hni (fun h' a hm => ?_) (Nat.zero_le _)
  have hn : H a = none := I.hok.gone hm.new
  obtain ⟨t, ht, _, _⟩ := hm.there
  exact ⟨.ref a, upd H a (exH D none a), I.laidN hm.keeps hm.new hn (exH_ok ht ⟨rfl, rfl⟩ rfl), rfl, h a hn⟩
end
end Dl

namespace Dl
open PySem L2
/-- C(..) as a value, C a class with its own __init__ -/
structure ExV (P : Program) (w : World) (K : PySem.W.Frag) (mg : Str → Option Value) (base : Heap) (k : Nat) (c : Str) : Prop where
  ex : ∃ (fI : Addr) (fd : FuncData) (ps : List Str), mg c = some (.ref (He.ga K c)) ∧ OexC K (He.ga K c) ∧ PySem.W.findIn K (.ref (He.ga K c)) "__init__" = some (some (.ref fI)) ∧ PySem.W.typeIn K (.ref fI) = some (.type "function") ∧
    FnOk P w K mg base CX0 k fI fd ps (spEx (He.ga K c) (fldN c)) ∧ Binds K fd ps [] ∧ Binds K fd ps [.none] ∧ (∀ (s : Shared) (u x : Value), K.In s.heap → BindsTo s fd ⟨[u], [(fldN c, x)]⟩ (ps.zip [u, x])) ∧ ps.length = 2 ∧ noFld c = false
/-- .. and its text -/
structure TxV (d : DefE) : Prop where
  b0 : ∀ (T : Addr) (doc pm : Value) (an : Option Addr) (cdv ct : Value) (cc : Addr) (u v : Value), ∃ k, bindArgs (PySem.W.ksFn "__init__" d.qual d.params d.body d.scope (.ref T) .none doc pm an cdv ct cc) ⟨[u], []⟩ = seqItems? (.ref T) >>= k ∧ k (some [v].toArray) = pure ((["self", fldN d.cls] : List Str).zip [u, v])
  bk : ∀ (T : Addr) (doc pm : Value) (an : Option Addr) (cdv ct : Value) (cc : Addr) (u x v : Value), ∃ k, bindArgs (PySem.W.ksFn "__init__" d.qual d.params d.body d.scope (.ref T) .none doc pm an cdv ct cc) ⟨[u], [(fldN d.cls, x)]⟩ = seqItems? (.ref T) >>= k ∧ k (some [v].toArray) = pure ((["self", fldN d.cls] : List Str).zip [u, x])
def oneNV (K : PySem.W.Frag) : Value → Bool
  | .ref T => (match K.lookup T with
    | some ⟨_, _, .seq its _, _⟩ => its.toList == [Value.none]
    | _ => false)
  | _ => false
theorem oneNV_ok {K : PySem.W.Frag} {T : Addr} (h : oneNV K (.ref T) = true) : ∃ (o : Obj) (n : Nat), K.lookup T = some o ∧ o.data = .seq [Value.none].toArray n := by
  unfold oneNV at h
  dsimp only at h
  split at h
  · rename_i c d its n sl lk
    have e := beq_iff_eq.mp h
    obtain ⟨l⟩ := its
    simp only at e
    subst e
    exact ⟨_, n, lk, rfl⟩
  · cases h
def oneNB (K : PySem.W.Frag) (d : DefE) : Bool := match K.lookup (iA K d.cls) with
  | some ⟨_, _, .func fd, _⟩ => oneNV K fd.defaults
  | _ => false
theorem exv_of {P : Program} {w : World} {K : PySem.W.Frag} {mg : Str → Option Value} {base : Heap} {d : DefE} {file : Str} (hfile : P.main.file = file) (htop : (P.main.scope.names.lookup ("super" : Str)).isSome = false) (hsup : mg "super" = none) (hc : mg d.cls = some (.ref (He.ga K d.cls))) (T : TxE d) (V : TxV d) (hn : oneNB K d = true) (e : fnE K (iA K d.cls) = d.val) (h : d.ok file K = true) : ExV P w K mg base 1 d.cls := by
  unfold DefE.ok at h
  obtain ⟨q, h⟩ := He.ba h
  obtain ⟨h1, h⟩ := He.ba h
  obtain ⟨h2, h⟩ := He.ba h
  obtain ⟨h3, h⟩ := He.ba h
  obtain ⟨h4, h⟩ := He.ba h
  obtain ⟨h5, h⟩ := He.ba h
  obtain ⟨h6, h⟩ := He.ba h
  obtain ⟨h7, h⟩ := He.ba h
  obtain ⟨h8, h⟩ := He.ba h
  obtain ⟨h9, h⟩ := He.ba h
  obtain ⟨h10, h11⟩ := He.ba h
  unfold fnE at e
  split at q
  · rename_i oc od fd osl lk
    rw [lk] at e
    unfold oneNB at hn
    rw [lk] at hn
    obtain ⟨n1, n2, n3, n4, n5, n6, n7, n8, n9, n10, n11, n12, n13, n14, n15⟩ := fd
    have e2 : (some (n1, n2, n3, n4, n5, n6, ([] : List (Str × Addr)), n15) : He.FnW) = (some (("__init__" : Str), d.qual, d.params, FuncBody.stmts d.body, d.scope, mainGlobals, ([] : List (Str × Addr)), builtinsNs) : He.FnW) := e
    simp only [Option.some.injEq, Prod.mk.injEq, true_and] at e2
    obtain ⟨g1, g2, g3, g4, g5, g6, g7⟩ := e2
    subst g1 g2 g3 g4 g5 g6 g7
    obtain ⟨c1, q⟩ := He.ba q
    obtain ⟨c2, q⟩ := He.ba q
    obtain ⟨c3, c4⟩ := He.ba q
    have c4' : n9 = .none := of_decide_eq_true c4
    subst c4'
    have hn' : oneNV K n8 = true := hn
    have c2' : cellB K (He.ga K d.cls) n7 = true := c2
    have c1' : codeB K file d.qual n13 = true := c1
    match n7, c2', lk with
    | [(x, cc)], c2', lk =>
      obtain ⟨x1, x2⟩ := He.ba c2'
      have ex := of_decide_eq_true x1
      subst ex
      match n13, c1', lk with
      | .ref cda, c1', lk =>
        obtain ⟨y1, y2⟩ := He.ba c1'
        match n8, c3, lk, hn' with
        | .ref TT, c3, lk, hn' =>
          split at x2
          · rename_i c5 d5 D s5 lcc
            have eD := beq_iff_eq.mp x2
            subst eD
            split at y2
            · rename_i c6 d6 vs s6 lcd
              split at y2
              · rename_i fl tf hv
                have ef := of_decide_eq_true y2
                obtain ⟨oT, nT, lT, dT⟩ := oneNV_ok hn'
                refine ⟨iA K d.cls, _, ["self", fldN d.cls], hc, oexB_ok h1, He.eqO_ok h7, of_decide_eq_true h8, fn_exinit ⟨⟨oc, od, _, _, n10, n11, n12, n14, cda, cc, osl, lk, y1, ⟨c6, d6, vs, s6, tf, lcd, ?_⟩, ⟨c5, d5, s5, lcc⟩⟩, htop, hsup, oexB_ok h1, of_decide_eq_true h2, of_decide_eq_true h3, ?_, He.eqO_ok h5, He.eqO_ok h6, T.body_, T.head, T.sc1, T.sc2, T.sc3, T.sc4, T.cell, T.flags, T.names⟩ ⟨_, _, _, lk⟩,
                  (fun s us Xs hl => by
                    rw [List.append_nil] at hl ⊢
                    obtain ⟨k, e1, e2⟩ := T.binds TT n10 n11 n12 (.ref cda) n14 cc us .none hl
                    refine BindsTo.of_looks fun M => ?_
                    have e1' := e1
                    rw [show ∀ z : FuncData, (bindArgs z ⟨us, []⟩ = seqItems? (.ref TT) >>= k) = (bindArgs z ⟨us, []⟩ = seqItems? (.ref TT) >>= k) from fun _ => rfl] at e1'
                    exact e1' ▸ looks_items Xs lT dT (.of_pure e2)), (fun s us Xs hl => by
                    have hl1 : us.length = 1 := by simpa using hl
                    match us, hl1 with
                    | [u], _ =>
                      obtain ⟨k, e1, e2⟩ := V.b0 TT n10 n11 n12 (.ref cda) n14 cc u .none
                      refine BindsTo.of_looks fun M => ?_
                      have e1' := e1
                      exact e1' ▸ looks_items Xs lT dT (.of_pure e2)),
                  (fun s u x Xs => by
                    obtain ⟨k, e1, e2⟩ := V.bk TT n10 n11 n12 (.ref cda) n14 cc u x .none
                    refine BindsTo.of_looks fun M => ?_
                    have e1' := e1
                    exact e1' ▸ looks_items Xs lT dT (.of_pure e2)), rfl, by cases z : noFld d.cls with | false => rfl | true => rw [z] at h10; cases h10⟩
                · rw [hfile, ← ef]; exact hv
                · split at h4
                  · rename_i cd hcd
                    exact ⟨cd, hcd, He.eqO_ok h4⟩
                  · cases h4
              · cases y2
            · cases y2
          · cases x2
  · cases q
/-! the readings -/
section
variable {X : Cx} {C : Addr} {j k : Nat} {c : Str} {e : Expr} {va : DA} {p pos : Pos} {kws : List Keyword}
def vExn (c : Str) (a : DA) : DE := fun γ M R => a γ M fun ds M1 => match ds with
  | [d] => R (.exn c d) M1
  | _ => False
theorem e_vExn (c : Str) (a : DA) (γ : Gm) (M : Mem) (R : DR) : vExn c a γ M R = (a γ M fun ds M1 => match ds with
  | [d] => R (.exn c d) M1
  | _ => False) := propext Iff.rfl
theorem mk_exn {G : Gx} {M M1 : Mem} {H H1 : Hp} {d : D} {y : V} {R : DR} {Q : VK} (i : Is G M1 H1 d y) (o1 : Own G M1 H1) (e1 : Ext M M1 H H1) (hR : R (.exn c d) M1)
    (kk : ∀ d M' x H', Own G M' H' → Is G M' H' d x → Ext M M' H H' → R d M' → Q x H') {N : Addr} (hN : N = He.ga G.K c) : MkV N (spEx N (fldN c)) [y] H1 Q := by
  subst hN
  intro a na
  refine ⟨a, y, rfl, upd_same, fun dd hdd hne => ⟨rfl, dd, [(fldN c, y)], upd_same, ?_, ?_, ?_⟩⟩
  · rw [upd_ne hne, upd_same]
  · rw [upd_ne hne] at hdd; exact hdd
  · rw [upd_ne hne] at hdd
    rw [del_upd na hne]
    have na2 : upd H1 dd (.xd [(fldN c, y)]) a = none := by rw [upd_ne (Ne.symm hne)]; exact na
    have x1 : Ext M1 M1 H1 (upd H1 dd (.xd [(fldN c, y)])) := Ext.new hdd
    have x2 : Ext M1 M1 (upd H1 dd (.xd [(fldN c, y)])) (upd (upd H1 dd (.xd [(fldN c, y)])) a (exH (He.ga G.K c) (some dd) a)) := Ext.new na2
    have oo := (o1.new (u := .xd [(fldN c, y)]) hdd)
    have hd0 := oo.fresh na2
    refine kk _ M1 _ _ (oo.new na2) ?_ (e1.trans (x1.trans x2)) hR
    unfold Is
    exact ⟨a, dd, y, rfl, hd0, upd_same, o1.fresh hdd, by rw [upd_ne hne, upd_same], Is.ext (x1.trans x2) _ _ i⟩
theorem q_exn (h : ExV X.prog X.w X.K X.mg X.base k c) (hr : Room j X.A) (hkj : k + 1 ≤ j) (ha : QA X C [e] va) (hg : Gl X c := by rfl) (hdb : (c == ("__debug__" : Str)) = false := by decide)
    (he : starEach [e] X.env = (false, eval e X.env) :: starEach [] X.env := by rfl) (hpl : (backTo pos (starEach [] X.env)).any (·.1) = false := by rfl) : QE X C (.Call (.Name c p) [e] [] pos) (vExn c va) := by
  obtain ⟨fI, fd, ps, h1, h2, h3, h4, h5, h6, h7, h8, h9, h10⟩ := h.ex
  obtain ⟨ta, pa, sa⟩ := ha.ex
  refine ⟨_, pe_oexP h2 h3 h4 h5 (hr.mono hkj) h6 pass0 hg h1 pa hdb he hpl, fun γ M R σ H Q r hv kk => sa γ M _ σ H _ r hv fun ds M1 xs H1 o1 i1 e1 hx => ?_⟩
  match ds, hx with
  | [d], hx =>
    obtain ⟨y, ey, iy⟩ := isL1 i1
    subst ey
    exact ⟨by show 1 ≤ 1000; decide, by rw [h9]; rfl, mk_exn iy o1 e1 hx kk rfl⟩
theorem q_exn0 (h : ExV X.prog X.w X.K X.mg X.base k c) (hr : Room j X.A) (hkj : k + 1 ≤ j) (hg : Gl X c := by rfl) (hdb : (c == ("__debug__" : Str)) = false := by decide) : QE X C (.Call (.Name c p) [] [] pos) (vC (.exn c .non)) := by
  obtain ⟨fI, fd, ps, h1, h2, h3, h4, h5, h6, h7, h8, h9, h10⟩ := h.ex
  refine ⟨_, pe_oex0 h2 h3 h4 h5 (hr.mono hkj) h7 h9 pass0 hg h1 hdb, fun γ M R σ H Q r hv kk => ?_⟩
  exact mk_exn (d := .non) (by unfold Is; rfl) r.ow Ext.refl hv kk rfl
theorem q_exnK (h : ExV X.prog X.w X.K X.mg X.base k c) (hr : Room j X.A) (hkj : k + 1 ≤ j) (ha : QK X C kws va) (hg : Gl X c := by rfl) (hdb : (c == ("__debug__" : Str)) = false := by decide)
    (hall : (backToKw pos (keywordEach kws X.env)).all (·.1.isSome) = true := by rfl) (hks : (backToKw pos (keywordEach kws X.env)).filterMap (·.1) = [fldN c] := by rfl)
    (hpl : ((backTo pos (starEach [] X.env)).any (·.1) || (backToKw pos (keywordEach kws X.env)).any (·.1.isNone)) = false := by rfl) : QE X C (.Call (.Name c p) [] kws pos) (vExn c va) := by
  obtain ⟨fI, fd, ps, h1, h2, h3, h4, h5, h6, h7, h8, h9, h10⟩ := h.ex
  obtain ⟨ta, pa, sa⟩ := ha.ex
  refine ⟨_, pe_oexK h2 h3 h4 h5 (hr.mono hkj) (fun s' u x kin => h8 s' u x kin) pass0 hg h1 pa hall hks hdb hpl, fun γ M R σ H Q r hv kk => sa γ M _ σ H _ r hv fun ds M1 xs H1 o1 i1 e1 hx => ?_⟩
  match ds, hx with
  | [d], hx =>
    obtain ⟨y, ey, iy⟩ := isL1 i1
    subst ey
    exact ⟨rfl, mk_exn iy o1 e1 hx kk rfl⟩
theorem q_exn00 (h : ExK0 X.K X.mg c) (hg : Gl X c := by rfl) (hdb : (c == ("__debug__" : Str)) = false := by decide) : QE X C (.Call (.Name c p) [] [] pos) (vC (.exn0 c)) := by
  obtain ⟨h1, h2, h3, h4, h5, h6, h7⟩ := h.ex
  refine ⟨_, pe_exc00 PySem.F.excBase_ValueError h2 h1 h3 hg hdb, fun γ M R σ H Q r hv kk a na => ?_⟩
  refine kk _ M _ _ (r.ow.new na) ?_ (Ext.new na) hv
  unfold Is
  exact ⟨a, rfl, r.ow.fresh na, upd_same⟩
end
end Dl
namespace Dl
open PySem L2
/-! ### repr of plain data with dicts and lists: what stands at the modules' table is a dict -/
def SysD (K : PySem.W.Frag) : Prop := ∃ o, K.lookup sysModules = some o ∧ o.cls = .type "dict"
def sysB (K : PySem.W.Frag) : Bool := match K.lookup sysModules with
  | some o => decide (o.cls = .type "dict")
  | none => false
theorem sysB_ok {K : PySem.W.Frag} (h : sysB K = true) : SysD K := by
  unfold sysB at h
  split at h
  · rename_i o e
    exact ⟨o, e, of_decide_eq_true h⟩
  · cases h
section
variable {X : Cx} {pins : List (Addr × Obj)} {σ : St} {H : Hp} {s : Shared} {C : Addr} {M : Mem}
theorem sys_ne (I : Inv X pins σ H s) (hs : SysD X.K) {a : Addr} {o : Obj} (ho : s.heap.get? a = some o) (hc : o.cls = .type "list") : a ≠ sysModules := fun e => by
  obtain ⟨o', h1, h2⟩ := hs
  have := I.kIn _ _ h1
  rw [e, this] at ho
  cases ho
  rw [h2] at hc
  injection hc with z
  exact absurd z (by decide)
mutual
theorem is_reads2 (I : Inv X pins σ H s) (hs : SysD X.K) : ∀ (d : D) (v : V) (u : Value) (p : PyData), Is ⟨X.K, C⟩ M H d v → RelV v u → toR d = some p → ∃ as, Reads s.heap u p as ∧ sysModules ∉ as
  | .non, v, u, p, i, r, e => by unfold toR at e; unfold Is at i; cases e; subst i; cases r; exact ⟨_, Reads.none, by simp⟩
  | .bl b, v, u, p, i, r, e => by unfold toR at e; unfold Is at i; cases e; subst i; cases r; exact ⟨_, Reads.bool b, by simp⟩
  | .int n, v, u, p, i, r, e => by unfold toR at e; unfold Is at i; cases e; subst i; obtain ⟨t, rfl⟩ := r; exact ⟨_, Reads.int n t, by simp⟩
  | .str x, v, u, p, i, r, e => by unfold toR at e; unfold Is at i; cases e; subst i; obtain ⟨t, rfl⟩ := r; exact ⟨_, Reads.str x t, by simp⟩
  | .tup ds, v, u, p, i, r, e => by
    unfold toR at e
    split at e
    · rename_i ps e1
      cases e
      unfold Is at i
      obtain ⟨a, xs, rfl, _, hH, il⟩ := i
      cases r
      obtain ⟨its, rv, ⟨o, ho, hc, n, hd⟩, _⟩ := I.tuple (show SqT X.K H a xs from .inl (.inl hH))
      obtain ⟨as, hr, hn⟩ := isL_reads2 I hs ds xs its ps il rv e1
      exact ⟨_, Reads.tuple ho hc hd hr, hn⟩
    · cases e
  | .lst ds, v, u, p, i, r, e => by
    unfold toR at e
    split at e
    · rename_i ps e1
      cases e
      unfold Is at i
      obtain ⟨a, xs, rfl, _, hH, il⟩ := i
      cases r
      obtain ⟨its, rv, ⟨o, n, ho, hc, _, hd⟩, _⟩ := I.list (show SqL X.K H a xs from .inl (.inl hH))
      obtain ⟨as, hr, hn⟩ := isL_reads2 I hs ds xs its ps il rv e1
      have ne := sys_ne I hs ho hc
      exact ⟨_, Reads.list ho hc hd hr, by
        simp only [List.append_nil, List.cons_append, List.nil_append, List.mem_cons, not_or]
        exact ⟨fun q => ne q.symm, hn⟩⟩
    · cases e
  | .dct ks ds, v, u, p, i, r, e => by
    unfold toR at e
    split at e
    · rename_i ps e1
      cases e
      unfold Is at i
      obtain ⟨a, xs, rfl, _, hH, hl, il⟩ := i
      cases r
      obtain ⟨_, hs1, us, kv, o, es, ep, h1, hx, h2, _, h3, _⟩ := I.hok a _ hH
      have l1 := toRL_len e1
      have l2 := il.len
      obtain ⟨q1, q2, q3⟩ := pairs_reads (h := s.heap) h3 (qs := ps) kv (by omega) (by omega)
      obtain ⟨bs, hr, hn⟩ := isL_reads2 I hs ds xs _ ps il q2 e1
      exact ⟨_, Reads.dict h1 hx.1 h2 q1 (by rw [q3]; exact hr), by
        have hs' : a ≠ sysModules := by simpa using hs1
        simp only [List.append_nil, List.cons_append, List.nil_append, List.mem_cons, not_or]
        exact ⟨fun q => hs' q.symm, hn⟩⟩
    · cases e
  | .own _, _, _, _, _, _, e => by unfold toR at e; cases e
  | .scr _, _, _, _, _, _, e => by unfold toR at e; cases e
  | .ln _ _ _, _, _, _, _, _, e => by unfold toR at e; cases e
  | .exn _ _, _, _, _, _, _, e => by unfold toR at e; cases e
  | .exn0 _, _, _, _, _, _, e => by unfold toR at e; cases e
  | .cls, _, _, _, _, _, e => by unfold toR at e; cases e
theorem isL_reads2 (I : Inv X pins σ H s) (hs : SysD X.K) : ∀ (ds : List D) (vs : List V) (us : List Value) (ps : List PyData), IsL ⟨X.K, C⟩ M H ds vs → Vals vs us → toRL ds = some ps → ∃ as, ReadsAll s.heap us ps as ∧ sysModules ∉ as
  | [], vs, us, ps, i, r, e => by
    unfold toRL at e
    cases e
    cases vs with
    | nil => cases r; exact ⟨_, ReadsAll.nil, by simp⟩
    | cons _ _ => unfold IsL at i; exact i.elim
  | d :: ds, vs, us, ps, i, r, e => by
    unfold toRL at e
    split at e
    · rename_i p qs e1 e2
      cases e
      cases vs with
      | nil => unfold IsL at i; exact i.elim
      | cons v vs =>
        unfold IsL at i
        cases r with
        | cons r1 r2 =>
          obtain ⟨as, q1, n1⟩ := is_reads2 I hs d _ _ _ i.1 r1 e1
          obtain ⟨bs, q2, n2⟩ := isL_reads2 I hs ds _ _ _ i.2 r2 e2
          exact ⟨_, ReadsAll.cons q1 q2, by
            rw [List.mem_append, not_or]
            exact ⟨n1, n2⟩⟩
    · cases e
end
end
/-- what may be shown -/
structure ShowS (d : D) (p : PyData) : Prop where
  is : toR d = some p
  sh : p.showable = true
  len : p.shown.length ≤ sizeLine
  dep : p.depth ≤ 60
def oReprSD : DC := fun ds M R => match ds with
  | [d] => ∃ p, ShowS d p ∧ R (.str p.shown) M
  | _ => False
theorem e_oReprSD (d : D) (M : Mem) (R : DR) : oReprSD [d] M R = (∃ p, ShowS d p ∧ R (.str p.shown) M) := id rfl
section
variable {X : Cx} {C : Addr}
def rReprSD (X : Cx) (C : Addr) : List V → Hp → VK → Prop := fun xs H Q => ∃ M d v p, xs = [v] ∧ Is ⟨X.K, C⟩ M H d v ∧ ShowS d p ∧ Q (.str p.shown) H
theorem cr_reprSD (hs : SysD X.K) (hg : X.A.guards = some []) (hu : X.A.units + 64 < cLine) : CallR X (.builtin "repr") (rReprSD X C) := by
  intro pins s σ H xs us Q I r h
  obtain ⟨M, d, v, p, rfl, i, sh, q⟩ := h
  obtain ⟨u, rfl, t⟩ := vals1 r
  obtain ⟨as, rd, nl⟩ := is_reads2 I hs d v u p i t sh.is
  have fin : ∀ h' u tk, (∀ b o, s.heap.get? b = some o → h'.get? b = some o) → EP X pins σ Q (.str p.shown u) { s with heap := h', toks := tk } := fun h' u tk k => ⟨.str p.shown, H, I.kept k, ⟨u, rfl⟩, q⟩
  have ss := sh.sh
  have sl := sh.len
  have big : ∀ (a : Addr), u = .ref a → wpAny (model X.prog X.w) X.A (call (.builtin "repr") [u]) (EP X pins σ Q) X.xe s := fun a e => by
    subst e
    exact repr_of_reads' rd ss (fun _ => nl) hg (by have := sh.dep; omega) (fun _ _ e => e) fin sl
  cases rd with
  | none => exact PySem.P.repr_of_none (fin s.heap _ _ fun _ _ e => e)
  | bool b => exact PySem.P.repr_of_bool (fin s.heap _ _ fun _ _ e => e)
  | int n t => exact PySem.P.repr_of_int (by simpa [PyData.showable] using ss) (fin s.heap _ _ fun _ _ e => e)
  | str x t => exact PySem.P.repr_of_str (fin s.heap _ _ fun _ _ e => e) (by simpa only [PyData.shown] using sl)
  | list _ _ _ _ => exact big _ rfl
  | tuple _ _ _ _ => exact big _ rfl
  | dict _ _ _ _ _ => exact big _ rfl
theorem b_reprSD {j : Nat} (hs : SysD X.K) (hg : X.A.guards = some []) (hr : Room j X.A) : BQ X C (.builtin "repr") oReprSD := ⟨_, cr_reprSD hs hg hr.units, fun ds M R H xs Q o i1 h k => by
  match ds, h with
  | [d], h =>
    obtain ⟨p, sh, h⟩ := h
    obtain ⟨v, rfl, i⟩ := isL1 i1
    exact ⟨M, d, v, p, rfl, i, sh, k _ M _ H o is_str Ext.refl h⟩⟩
end
end Dl
namespace K01
open PySem L2 Dl
def csL : List PySem.Str := ["InvalidLine", "InvalidRange", "InvalidNumber", "InvalidList", "InvalidRecipe", "InvalidTest", "NotRising", "UnknownName", "TakenName", "InvalidName", "TooNarrow", "InvalidCode", "Overflow", "NothingToUndo"]
def tsL : List PySem.Str := ["InvalidLine", "InvalidRange", "InvalidNumber", "InvalidList", "InvalidRecipe", "InvalidTest", "NotRising", "UnknownName", "TakenName", "InvalidName", "TooNarrow", "InvalidCode", "Overflow", "NothingToUndo", "FourTestsError"]
theorem in_InvalidLine : (("InvalidLine" : PySem.Str) ∈ csL) = True := eq_true (by decide +kernel)
theorem nf_InvalidLine : noFld ("InvalidLine" : PySem.Str) = false := by decide +kernel
theorem fl_InvalidLine : fldN ("InvalidLine" : PySem.Str) = ("value" : PySem.Str) := by decide +kernel
theorem in_InvalidRange : (("InvalidRange" : PySem.Str) ∈ csL) = True := eq_true (by decide +kernel)
theorem nf_InvalidRange : noFld ("InvalidRange" : PySem.Str) = false := by decide +kernel
theorem fl_InvalidRange : fldN ("InvalidRange" : PySem.Str) = ("value" : PySem.Str) := by decide +kernel
theorem in_InvalidNumber : (("InvalidNumber" : PySem.Str) ∈ csL) = True := eq_true (by decide +kernel)
theorem nf_InvalidNumber : noFld ("InvalidNumber" : PySem.Str) = false := by decide +kernel
theorem fl_InvalidNumber : fldN ("InvalidNumber" : PySem.Str) = ("value" : PySem.Str) := by decide +kernel
theorem in_InvalidList : (("InvalidList" : PySem.Str) ∈ csL) = True := eq_true (by decide +kernel)
theorem nf_InvalidList : noFld ("InvalidList" : PySem.Str) = false := by decide +kernel
theorem fl_InvalidList : fldN ("InvalidList" : PySem.Str) = ("value" : PySem.Str) := by decide +kernel
theorem in_InvalidRecipe : (("InvalidRecipe" : PySem.Str) ∈ csL) = True := eq_true (by decide +kernel)
theorem nf_InvalidRecipe : noFld ("InvalidRecipe" : PySem.Str) = false := by decide +kernel
theorem fl_InvalidRecipe : fldN ("InvalidRecipe" : PySem.Str) = ("value" : PySem.Str) := by decide +kernel
theorem in_InvalidTest : (("InvalidTest" : PySem.Str) ∈ csL) = True := eq_true (by decide +kernel)
theorem nf_InvalidTest : noFld ("InvalidTest" : PySem.Str) = false := by decide +kernel
theorem fl_InvalidTest : fldN ("InvalidTest" : PySem.Str) = ("value" : PySem.Str) := by decide +kernel
theorem in_NotRising : (("NotRising" : PySem.Str) ∈ csL) = True := eq_true (by decide +kernel)
theorem nf_NotRising : noFld ("NotRising" : PySem.Str) = true := by decide +kernel
theorem fl_NotRising : fldN ("NotRising" : PySem.Str) = ("value" : PySem.Str) := by decide +kernel
theorem in_UnknownName : (("UnknownName" : PySem.Str) ∈ csL) = True := eq_true (by decide +kernel)
theorem nf_UnknownName : noFld ("UnknownName" : PySem.Str) = false := by decide +kernel
theorem fl_UnknownName : fldN ("UnknownName" : PySem.Str) = ("name" : PySem.Str) := by decide +kernel
theorem in_TakenName : (("TakenName" : PySem.Str) ∈ csL) = True := eq_true (by decide +kernel)
theorem nf_TakenName : noFld ("TakenName" : PySem.Str) = false := by decide +kernel
theorem fl_TakenName : fldN ("TakenName" : PySem.Str) = ("name" : PySem.Str) := by decide +kernel
theorem in_InvalidName : (("InvalidName" : PySem.Str) ∈ csL) = True := eq_true (by decide +kernel)
theorem nf_InvalidName : noFld ("InvalidName" : PySem.Str) = false := by decide +kernel
theorem fl_InvalidName : fldN ("InvalidName" : PySem.Str) = ("name" : PySem.Str) := by decide +kernel
theorem in_TooNarrow : (("TooNarrow" : PySem.Str) ∈ csL) = True := eq_true (by decide +kernel)
theorem nf_TooNarrow : noFld ("TooNarrow" : PySem.Str) = false := by decide +kernel
theorem fl_TooNarrow : fldN ("TooNarrow" : PySem.Str) = ("bits" : PySem.Str) := by decide +kernel
theorem in_InvalidCode : (("InvalidCode" : PySem.Str) ∈ csL) = True := eq_true (by decide +kernel)
theorem nf_InvalidCode : noFld ("InvalidCode" : PySem.Str) = false := by decide +kernel
theorem fl_InvalidCode : fldN ("InvalidCode" : PySem.Str) = ("row" : PySem.Str) := by decide +kernel
theorem in_Overflow : (("Overflow" : PySem.Str) ∈ csL) = True := eq_true (by decide +kernel)
theorem nf_Overflow : noFld ("Overflow" : PySem.Str) = false := by decide +kernel
theorem fl_Overflow : fldN ("Overflow" : PySem.Str) = ("row" : PySem.Str) := by decide +kernel
theorem in_NothingToUndo : (("NothingToUndo" : PySem.Str) ∈ csL) = True := eq_true (by decide +kernel)
theorem nf_NothingToUndo : noFld ("NothingToUndo" : PySem.Str) = true := by decide +kernel
theorem fl_NothingToUndo : fldN ("NothingToUndo" : PySem.Str) = ("value" : PySem.Str) := by decide +kernel
end K01
namespace K01
open PySem L2 Dl
def top (i : Nat) : Stmt := PySem.Challenge.pw_fourtests_k01_errors.main.body.getD i (.Pass ⟨0, 0, 0, 0⟩)
abbrev s__law_fields : Stmt := top 22
abbrev s__law_kinds : Stmt := top 21
abbrev s__law_right : Stmt := top 23
abbrev s__law_given_right : Stmt := top 24
abbrev s__law_hash : Stmt := top 18
abbrev s__law_random : Stmt := top 20
abbrev s__law_cell : Stmt := top 17
abbrev s__law_generator : Stmt := top 19
abbrev s_law : Stmt := top 25
/-! ### the head -/
def fnL : List He5.DefA := [
  ⟨fun K => He.ga K "_law_fields", "_law_fields", "_law_fields", defArgs s__law_fields, defBody s__law_fields, defScope s__law_fields, [], []⟩,
  ⟨fun K => He.ga K "_law_kinds", "_law_kinds", "_law_kinds", defArgs s__law_kinds, defBody s__law_kinds, defScope s__law_kinds, [], []⟩,
  ⟨fun K => He.ga K "_law_right", "_law_right", "_law_right", defArgs s__law_right, defBody s__law_right, defScope s__law_right, [], []⟩,
  ⟨fun K => He.ga K "_law_given_right", "_law_given_right", "_law_given_right", defArgs s__law_given_right, defBody s__law_given_right, defScope s__law_given_right, [], []⟩,
  ⟨fun K => He.ga K "_law_hash", "_law_hash", "_law_hash", defArgs s__law_hash, defBody s__law_hash, defScope s__law_hash, [], []⟩,
  ⟨fun K => He.ga K "_law_random", "_law_random", "_law_random", defArgs s__law_random, defBody s__law_random, defScope s__law_random, [], []⟩,
  ⟨fun K => He.ga K "_law_cell", "_law_cell", "_law_cell", defArgs s__law_cell, defBody s__law_cell, defScope s__law_cell, [], []⟩,
  ⟨fun K => He.ga K "_law_generator", "_law_generator", "_law_generator", defArgs s__law_generator, defBody s__law_generator, defScope s__law_generator, [], []⟩,
  ⟨fun K => He.ga K "law", "law", "law", defArgs s_law, defBody s_law, defScope s_law, [], []⟩]
abbrev se_InvalidList : Stmt := inClass (top 5) 0
def de_InvalidList : DefE := ⟨"InvalidList", "InvalidList.__init__", defArgs se_InvalidList, defBody se_InvalidList, defScope se_InvalidList⟩
theorem tx_InvalidList : TxE de_InvalidList := ⟨⟨_, _, _, _, _, _, _, _, _, _, rfl, fun _ => ⟨_, rfl⟩⟩, rfl, rfl, rfl, rfl, rfl, by decide +kernel, ⟨rfl, rfl, rfl⟩, ⟨by decide +kernel, by decide +kernel, by decide +kernel⟩, fun _ _ _ _ _ _ _ us _ hl => match us, hl with | [_, _], _ => ⟨_, rfl, rfl⟩⟩
abbrev se_InvalidNumber : Stmt := inClass (top 4) 0
def de_InvalidNumber : DefE := ⟨"InvalidNumber", "InvalidNumber.__init__", defArgs se_InvalidNumber, defBody se_InvalidNumber, defScope se_InvalidNumber⟩
theorem tx_InvalidNumber : TxE de_InvalidNumber := ⟨⟨_, _, _, _, _, _, _, _, _, _, rfl, fun _ => ⟨_, rfl⟩⟩, rfl, rfl, rfl, rfl, rfl, by decide +kernel, ⟨rfl, rfl, rfl⟩, ⟨by decide +kernel, by decide +kernel, by decide +kernel⟩, fun _ _ _ _ _ _ _ us _ hl => match us, hl with | [_, _], _ => ⟨_, rfl, rfl⟩⟩
abbrev se_InvalidRange : Stmt := inClass (top 3) 0
def de_InvalidRange : DefE := ⟨"InvalidRange", "InvalidRange.__init__", defArgs se_InvalidRange, defBody se_InvalidRange, defScope se_InvalidRange⟩
theorem tx_InvalidRange : TxE de_InvalidRange := ⟨⟨_, _, _, _, _, _, _, _, _, _, rfl, fun _ => ⟨_, rfl⟩⟩, rfl, rfl, rfl, rfl, rfl, by decide +kernel, ⟨rfl, rfl, rfl⟩, ⟨by decide +kernel, by decide +kernel, by decide +kernel⟩, fun _ _ _ _ _ _ _ us _ hl => match us, hl with | [_, _], _ => ⟨_, rfl, rfl⟩⟩
abbrev se_InvalidLine : Stmt := inClass (top 2) 0
def de_InvalidLine : DefE := ⟨"InvalidLine", "InvalidLine.__init__", defArgs se_InvalidLine, defBody se_InvalidLine, defScope se_InvalidLine⟩
theorem tx_InvalidLine : TxE de_InvalidLine := ⟨⟨_, _, _, _, _, _, _, _, _, _, rfl, fun _ => ⟨_, rfl⟩⟩, rfl, rfl, rfl, rfl, rfl, by decide +kernel, ⟨rfl, rfl, rfl⟩, ⟨by decide +kernel, by decide +kernel, by decide +kernel⟩, fun _ _ _ _ _ _ _ us _ hl => match us, hl with | [_, _], _ => ⟨_, rfl, rfl⟩⟩
abbrev se_UnknownName : Stmt := inClass (top 9) 0
def de_UnknownName : DefE := ⟨"UnknownName", "UnknownName.__init__", defArgs se_UnknownName, defBody se_UnknownName, defScope se_UnknownName⟩
theorem tx_UnknownName : TxE de_UnknownName := ⟨⟨_, _, _, _, _, _, _, _, _, _, rfl, fun _ => ⟨_, rfl⟩⟩, rfl, rfl, rfl, rfl, rfl, by decide +kernel, ⟨rfl, rfl, rfl⟩, ⟨by decide +kernel, by decide +kernel, by decide +kernel⟩, fun _ _ _ _ _ _ _ us _ hl => match us, hl with | [_, _], _ => ⟨_, rfl, rfl⟩⟩
abbrev se_InvalidTest : Stmt := inClass (top 7) 0
def de_InvalidTest : DefE := ⟨"InvalidTest", "InvalidTest.__init__", defArgs se_InvalidTest, defBody se_InvalidTest, defScope se_InvalidTest⟩
theorem tx_InvalidTest : TxE de_InvalidTest := ⟨⟨_, _, _, _, _, _, _, _, _, _, rfl, fun _ => ⟨_, rfl⟩⟩, rfl, rfl, rfl, rfl, rfl, by decide +kernel, ⟨rfl, rfl, rfl⟩, ⟨by decide +kernel, by decide +kernel, by decide +kernel⟩, fun _ _ _ _ _ _ _ us _ hl => match us, hl with | [_, _], _ => ⟨_, rfl, rfl⟩⟩
abbrev se_InvalidRecipe : Stmt := inClass (top 6) 0
def de_InvalidRecipe : DefE := ⟨"InvalidRecipe", "InvalidRecipe.__init__", defArgs se_InvalidRecipe, defBody se_InvalidRecipe, defScope se_InvalidRecipe⟩
theorem tx_InvalidRecipe : TxE de_InvalidRecipe := ⟨⟨_, _, _, _, _, _, _, _, _, _, rfl, fun _ => ⟨_, rfl⟩⟩, rfl, rfl, rfl, rfl, rfl, by decide +kernel, ⟨rfl, rfl, rfl⟩, ⟨by decide +kernel, by decide +kernel, by decide +kernel⟩, fun _ _ _ _ _ _ _ us _ hl => match us, hl with | [_, _], _ => ⟨_, rfl, rfl⟩⟩
abbrev se_InvalidCode : Stmt := inClass (top 13) 0
def de_InvalidCode : DefE := ⟨"InvalidCode", "InvalidCode.__init__", defArgs se_InvalidCode, defBody se_InvalidCode, defScope se_InvalidCode⟩
theorem tx_InvalidCode : TxE de_InvalidCode := ⟨⟨_, _, _, _, _, _, _, _, _, _, rfl, fun _ => ⟨_, rfl⟩⟩, rfl, rfl, rfl, rfl, rfl, by decide +kernel, ⟨rfl, rfl, rfl⟩, ⟨by decide +kernel, by decide +kernel, by decide +kernel⟩, fun _ _ _ _ _ _ _ us _ hl => match us, hl with | [_, _], _ => ⟨_, rfl, rfl⟩⟩
abbrev se_TooNarrow : Stmt := inClass (top 12) 0
def de_TooNarrow : DefE := ⟨"TooNarrow", "TooNarrow.__init__", defArgs se_TooNarrow, defBody se_TooNarrow, defScope se_TooNarrow⟩
theorem tx_TooNarrow : TxE de_TooNarrow := ⟨⟨_, _, _, _, _, _, _, _, _, _, rfl, fun _ => ⟨_, rfl⟩⟩, rfl, rfl, rfl, rfl, rfl, by decide +kernel, ⟨rfl, rfl, rfl⟩, ⟨by decide +kernel, by decide +kernel, by decide +kernel⟩, fun _ _ _ _ _ _ _ us _ hl => match us, hl with | [_, _], _ => ⟨_, rfl, rfl⟩⟩
abbrev se_InvalidName : Stmt := inClass (top 11) 0
def de_InvalidName : DefE := ⟨"InvalidName", "InvalidName.__init__", defArgs se_InvalidName, defBody se_InvalidName, defScope se_InvalidName⟩
theorem tx_InvalidName : TxE de_InvalidName := ⟨⟨_, _, _, _, _, _, _, _, _, _, rfl, fun _ => ⟨_, rfl⟩⟩, rfl, rfl, rfl, rfl, rfl, by decide +kernel, ⟨rfl, rfl, rfl⟩, ⟨by decide +kernel, by decide +kernel, by decide +kernel⟩, fun _ _ _ _ _ _ _ us _ hl => match us, hl with | [_, _], _ => ⟨_, rfl, rfl⟩⟩
abbrev se_TakenName : Stmt := inClass (top 10) 0
def de_TakenName : DefE := ⟨"TakenName", "TakenName.__init__", defArgs se_TakenName, defBody se_TakenName, defScope se_TakenName⟩
theorem tx_TakenName : TxE de_TakenName := ⟨⟨_, _, _, _, _, _, _, _, _, _, rfl, fun _ => ⟨_, rfl⟩⟩, rfl, rfl, rfl, rfl, rfl, by decide +kernel, ⟨rfl, rfl, rfl⟩, ⟨by decide +kernel, by decide +kernel, by decide +kernel⟩, fun _ _ _ _ _ _ _ us _ hl => match us, hl with | [_, _], _ => ⟨_, rfl, rfl⟩⟩
abbrev se_Overflow : Stmt := inClass (top 14) 0
def de_Overflow : DefE := ⟨"Overflow", "Overflow.__init__", defArgs se_Overflow, defBody se_Overflow, defScope se_Overflow⟩
theorem tx_Overflow : TxE de_Overflow := ⟨⟨_, _, _, _, _, _, _, _, _, _, rfl, fun _ => ⟨_, rfl⟩⟩, rfl, rfl, rfl, rfl, rfl, by decide +kernel, ⟨rfl, rfl, rfl⟩, ⟨by decide +kernel, by decide +kernel, by decide +kernel⟩, fun _ _ _ _ _ _ _ us _ hl => match us, hl with | [_, _], _ => ⟨_, rfl, rfl⟩⟩
theorem txv_InvalidList : TxV de_InvalidList := ⟨fun _ _ _ _ _ _ _ _ _ => ⟨_, rfl, rfl⟩, fun _ _ _ _ _ _ _ _ _ _ => ⟨_, rfl, rfl⟩⟩
theorem txv_InvalidNumber : TxV de_InvalidNumber := ⟨fun _ _ _ _ _ _ _ _ _ => ⟨_, rfl, rfl⟩, fun _ _ _ _ _ _ _ _ _ _ => ⟨_, rfl, rfl⟩⟩
theorem txv_InvalidRange : TxV de_InvalidRange := ⟨fun _ _ _ _ _ _ _ _ _ => ⟨_, rfl, rfl⟩, fun _ _ _ _ _ _ _ _ _ _ => ⟨_, rfl, rfl⟩⟩
theorem txv_InvalidLine : TxV de_InvalidLine := ⟨fun _ _ _ _ _ _ _ _ _ => ⟨_, rfl, rfl⟩, fun _ _ _ _ _ _ _ _ _ _ => ⟨_, rfl, rfl⟩⟩
theorem txv_UnknownName : TxV de_UnknownName := ⟨fun _ _ _ _ _ _ _ _ _ => ⟨_, rfl, rfl⟩, fun _ _ _ _ _ _ _ _ _ _ => ⟨_, rfl, rfl⟩⟩
theorem txv_InvalidTest : TxV de_InvalidTest := ⟨fun _ _ _ _ _ _ _ _ _ => ⟨_, rfl, rfl⟩, fun _ _ _ _ _ _ _ _ _ _ => ⟨_, rfl, rfl⟩⟩
theorem txv_InvalidRecipe : TxV de_InvalidRecipe := ⟨fun _ _ _ _ _ _ _ _ _ => ⟨_, rfl, rfl⟩, fun _ _ _ _ _ _ _ _ _ _ => ⟨_, rfl, rfl⟩⟩
theorem txv_InvalidCode : TxV de_InvalidCode := ⟨fun _ _ _ _ _ _ _ _ _ => ⟨_, rfl, rfl⟩, fun _ _ _ _ _ _ _ _ _ _ => ⟨_, rfl, rfl⟩⟩
theorem txv_TooNarrow : TxV de_TooNarrow := ⟨fun _ _ _ _ _ _ _ _ _ => ⟨_, rfl, rfl⟩, fun _ _ _ _ _ _ _ _ _ _ => ⟨_, rfl, rfl⟩⟩
theorem txv_InvalidName : TxV de_InvalidName := ⟨fun _ _ _ _ _ _ _ _ _ => ⟨_, rfl, rfl⟩, fun _ _ _ _ _ _ _ _ _ _ => ⟨_, rfl, rfl⟩⟩
theorem txv_TakenName : TxV de_TakenName := ⟨fun _ _ _ _ _ _ _ _ _ => ⟨_, rfl, rfl⟩, fun _ _ _ _ _ _ _ _ _ _ => ⟨_, rfl, rfl⟩⟩
theorem txv_Overflow : TxV de_Overflow := ⟨fun _ _ _ _ _ _ _ _ _ => ⟨_, rfl, rfl⟩, fun _ _ _ _ _ _ _ _ _ _ => ⟨_, rfl, rfl⟩⟩
def esL : List DefE := [de_InvalidList, de_InvalidNumber, de_InvalidRange, de_InvalidLine, de_UnknownName, de_InvalidTest, de_InvalidRecipe, de_InvalidCode, de_TooNarrow, de_InvalidName, de_TakenName, de_Overflow]
def exL (K : PySem.W.Frag) : Bool := exAllB K csL tsL && (sysB K && (oneNB K de_InvalidList && (oneNB K de_InvalidNumber && (oneNB K de_InvalidRange && (oneNB K de_InvalidLine && (oneNB K de_UnknownName && (oneNB K de_InvalidTest && (oneNB K de_InvalidRecipe && (oneNB K de_InvalidCode && (oneNB K de_TooNarrow && (oneNB K de_InvalidName && (oneNB K de_TakenName && (oneNB K de_Overflow && (exk0B K "NothingToUndo" && (exk0B K "NotRising" && (true))))))))))))))))
def faL : List He.Fa := [.glo "_law_fields", .glo "_law_kinds", .glo "_law_right", .glo "_law_given_right", .glo "_law_hash", .glo "_law_random", .glo "_law_cell", .glo "_law_generator", .glo "law", .free "ValueError", .free "int", .free "isinstance", .free "len", .free "max", .free "range", .free "repr", .free "super", .glo "FourTestsError", .glo "InvalidLine", .glo "InvalidRange", .glo "InvalidNumber", .glo "InvalidList", .glo "InvalidRecipe", .glo "InvalidTest", .glo "NotRising", .glo "UnknownName", .glo "TakenName", .glo "InvalidName", .glo "TooNarrow", .glo "InvalidCode", .glo "Overflow", .glo "NothingToUndo"]
abbrev Rw : PySem.W.OpenRow := PySem.W.OpenLaw.row PySem.Challenge.rw_fourtests_k01_errors
def asL : List Addr := [3, 2, 1, 24, 279, 47, 113, 235, 91, 69, 135, 157, 169, 313, 301, 213, 257, 191, 23, 278, 46, 112, 234, 90, 68, 134, 156, 168, 312, 300, 212, 256, 190, 22, 25, 276, 277, 44, 45, 110, 111, 232, 233, 88, 89, 66, 67, 132, 133, 154, 155, 167, 311, 298, 299, 210, 211, 254, 255, 188, 189, 275, 268, 263, 43, 36, 31, 109, 102, 97, 231, 224, 219, 87, 80, 75, 65, 58, 53, 131, 124, 119, 153, 146, 141, 297, 290, 285, 209, 202, 197, 253, 246, 241, 187, 180, 175, 322, 353, 336, 365, 329, 348, 343, 358, 372, 321, 352, 335, 364, 328, 347, 342, 357, 371]
abbrev hk : PySem.W.Hook := hook4 asL exL faL fnL "/claim/cut.py" esL
def ob (s : PySem.W.SharedT) : AlE := ob4 asL exL faL fnL "/claim/cut.py" esL (HandSHeadRun.getT s)
theorem ob_eq (s : PySem.W.SharedT) : ob s = hk.obs s.abs := ob4_eq (HandSHeadRun.getT_eq s)
def nm0 : List PySem.Str := ["__name__", "FourTestsError", "InvalidLine", "InvalidRange", "InvalidNumber", "InvalidList", "InvalidRecipe", "InvalidTest", "NotRising", "UnknownName", "TakenName", "InvalidName", "TooNarrow", "InvalidCode", "Overflow", "NothingToUndo", "_law_cell", "_law_hash", "_law_generator", "_law_random"]
def nm1 : List PySem.Str := ["_law_kinds", "_law_fields", "_law_right", "_law_given_right"]
def names : List PySem.Str := nm0 ++ nm1
theorem run (w : World) : HandSHeadRun.RunEq Rw (PySem.W.view Rw.prog [25]) hk ob 20000 names w := by
  intro os
  kernel_rfl
end K01
namespace Mth
theorem rot_core (v P Q : Int) (hP : 0 < P) (q r : Int) (hv : v = P * q + r) (h0 : 0 ≤ r) (h1 : r < P) :
    (q + r * (2 * Q)) / 2 + ((q + r * (2 * Q)) % 2) * (P * Q) = v / (2 * P) + v % (2 * P) * Q := by
  have e1 : q + r * (2 * Q) = q + 2 * (r * Q) := by grind
  rw [e1]
  have e2 : (q + 2 * (r * Q)) / 2 = q / 2 + r * Q := by omega
  have e3 : (q + 2 * (r * Q)) % 2 = q % 2 := by omega
  rw [e2, e3]
  have hq := Int.emod_add_mul_ediv q 2
  have hq0 : 0 ≤ q % 2 := by omega
  have hq1 : q % 2 < 2 := by omega
  have hv2 : v = 2 * P * (q / 2) + (P * (q % 2) + r) := by grind
  have b0 : 0 ≤ P * (q % 2) + r := by
    have := Int.mul_nonneg (Int.le_of_lt hP) hq0
    omega
  have b1 : P * (q % 2) + r < 2 * P := by
    have : P * (q % 2) ≤ P * 1 := Int.mul_le_mul_of_nonneg_left (by omega) (by omega)
    omega
  have d1 : v / (2 * P) = q / 2 := by
    rw [hv2, Int.add_comm, Int.add_mul_ediv_left _ _ (by omega), Int.ediv_eq_zero_of_lt b0 b1]; omega
  have d2 : v % (2 * P) = P * (q % 2) + r := by
    have := Int.emod_add_mul_ediv v (2 * P)
    rw [d1] at this
    omega
  rw [d1, d2]
  grind
/-- one turn more -/
theorem rot_step (v : Int) (t c : Nat) : (v / 2 ^ t + v % 2 ^ t * 2 ^ (c + 1)) / 2 + (v / 2 ^ t + v % 2 ^ t * 2 ^ (c + 1)) % 2 * 2 ^ (t + c) = v / 2 ^ (t + 1) + v % 2 ^ (t + 1) * 2 ^ c := by
  have hP : (0 : Int) < 2 ^ t := Int.pow_pos (by decide)
  have h := rot_core v (2 ^ t) (2 ^ c) hP (v / 2 ^ t) (v % 2 ^ t) (by have := Int.emod_add_mul_ediv v (2 ^ t); omega) (Int.emod_nonneg v (by omega)) (Int.emod_lt_of_pos v hP)
  have e1 : (2 : Int) ^ (c + 1) = 2 * 2 ^ c := by rw [Int.pow_succ]; omega
  have e2 : (2 : Int) ^ (t + 1) = 2 * 2 ^ t := by rw [Int.pow_succ]; omega
  have e3 : (2 : Int) ^ (t + c) = 2 ^ t * 2 ^ c := Int.pow_add 2 t c
  rw [e1, e2, e3]
  exact h
end Mth
-- uses rot
namespace Dl
open PySem L2
theorem sm_small {n : Int} (h0 : -100000 < n) (h1 : n < 100000) : Sm 9000 n := (sm_of (n := 20) (by omega) (by omega)).mono (by decide)
theorem lt_two (n : Nat) : (n : Int) < 2 ^ n := by
  have : n < 2 ^ n := Nat.lt_two_pow_self
  have h2 : ((2 ^ n : Nat) : Int) = 2 ^ n := by simp
  omega
def TestOk (f a t l b : Int) : Prop := 1 ≤ b ∧ b ≤ 1000 ∧ 0 ≤ f ∧ f < 2 ^ b.toNat ∧ 0 ≤ a ∧ a < 2 ^ b.toNat ∧ 0 ≤ t ∧ t < b ∧ 0 ≤ l ∧ l < 2 ^ b.toNat
def turnedM (v t b : Int) : Int := v / 2 ^ t.toNat + v % 2 ^ t.toNat * 2 ^ (b - t).toNat
def passesM (f a t l n b : Int) : Bool := decide (turnedM ((f * n + a) % 2 ^ b.toNat) t b ≤ l)
def inRing (d : D) (b : Int) : Bool := match d with
  | .int v => decide (0 ≤ v) && decide (v < 2 ^ b.toNat)
  | _ => false
theorem two_pos (n : Nat) : (0 : Int) < 2 ^ n := Int.pow_pos (by decide)
theorem two_le (n : Nat) (h : 1 ≤ n) : (2 : Int) ≤ 2 ^ n := by
  obtain ⟨k, rfl⟩ : ∃ k, n = k + 1 := ⟨n - 1, by omega⟩
  have := two_pos k
  rw [Int.pow_succ]; omega
theorem sm_two (n : Nat) : Sm (n + 1) (2 ^ n) := by
  have := two_pos n
  refine sm_of ?_ ?_ <;> rw [Int.pow_succ] <;> omega
theorem sm_ring {x b : Int} (h0 : 0 ≤ x) (h1 : x < 2 ^ b.toNat) (hb : b ≤ 1000) : Sm 1000 x := by
  have h : Sm b.toNat x := sm_of (by have := two_pos b.toNat; omega) h1
  exact h.mono (by omega)
theorem turn_zero (v b : Int) : turnedM v 0 b = v := by
  unfold turnedM
  simp
theorem turn_succ (v b : Int) (i : Nat) (h : (i : Int) < b) : turnedM v ((i + 1 : Nat) : Int) b = turnedM v i b / 2 + turnedM v i b % 2 * 2 ^ (b - 1).toNat := by
  obtain ⟨c, rfl⟩ : ∃ c : Nat, b = (i : Int) + 1 + c := ⟨(b - i - 1).toNat, by omega⟩
  unfold turnedM
  have e1 : ((i + 1 : Nat) : Int).toNat = i + 1 := by omega
  have e2 : ((i : Int) + 1 + c - ((i + 1 : Nat) : Int)).toNat = c := by omega
  have e3 : ((i : Int)).toNat = i := by omega
  have e4 : ((i : Int) + 1 + c - (i : Int)).toNat = c + 1 := by omega
  have e5 : ((i : Int) + 1 + c - 1).toNat = i + c := by omega
  rw [e1, e2, e3, e4, e5]
  exact (Mth.rot_step v i c).symm
end Dl
-- uses rot ring
namespace Dl
open PySem L2
theorem two_dvd (a b : Nat) (h : a ≤ b) : (2 : Int) ^ a ∣ 2 ^ b := by
  obtain ⟨c, rfl⟩ : ∃ c, b = a + c := ⟨b - a, by omega⟩
  rw [Int.pow_add]
  exact Int.dvd_mul_right _ _
/-- one step of Newton's way to an inverse -/
theorem newton (f x : Int) (b i : Nat) (h : (2 : Int) ^ min (2 ^ i) b ∣ 1 - f * x) : (2 : Int) ^ min (2 ^ (i + 1)) b ∣ 1 - f * (x * (2 - f * x) % 2 ^ b) := by
  have h1 : (2 : Int) ^ min (2 ^ (i + 1)) b ∣ (1 - f * x) * (1 - f * x) := by
    refine Int.dvd_trans (two_dvd _ (min (2 ^ i) b + min (2 ^ i) b) (by rw [Nat.pow_succ]; omega)) ?_
    rw [Int.pow_add]
    exact Int.mul_dvd_mul h h
  have h2 : (2 : Int) ^ min (2 ^ (i + 1)) b ∣ 2 ^ b := two_dvd _ _ (Nat.min_le_right _ _)
  have e : 1 - f * (x * (2 - f * x) % 2 ^ b) = (1 - f * x) * (1 - f * x) + 2 ^ b * (f * (x * (2 - f * x) / 2 ^ b)) := by
    have := Int.mul_ediv_add_emod (x * (2 - f * x)) (2 ^ b)
    generalize x * (2 - f * x) % 2 ^ b = r at *
    generalize x * (2 - f * x) / 2 ^ b = q at *
    grind
  rw [e]
  exact Int.dvd_add h1 (Int.dvd_mul_of_dvd_left h2)
theorem newton_end (f x : Int) (b i : Nat) (hb : 1 ≤ b) (h : (2 : Int) ^ min (2 ^ i) b ∣ 1 - f * x) (hi : b ≤ 2 ^ i) : f * x % 2 ^ b = 1 := by
  rw [Nat.min_eq_right hi] at h
  have h2 := two_le b hb
  have e : (f * x) % 2 ^ b = 1 % 2 ^ b := by
    refine Int.emod_eq_emod_iff_emod_sub_eq_zero.mpr (Int.emod_eq_zero_of_dvd ?_)
    have := (Int.dvd_neg (a := 2 ^ b) (b := 1 - f * x)).mpr h
    rwa [Int.neg_sub] at this
  rw [e, Int.emod_eq_of_lt (by omega) (by omega)]
theorem two_mono (a b : Nat) (h : a ≤ b) : (2 : Int) ^ a ≤ 2 ^ b := Int.le_of_dvd (two_pos _) (two_dvd a b h)
theorem two_lt {a b : Nat} (h : (2 : Int) ^ a < 2 ^ b) : a < b := by
  rcases Nat.lt_or_ge a b with h1 | h1
  · exact h1
  · have := two_mono b a h1; omega
def RestOk (f a t l d r b : Int) : Prop := TestOk f a t l b ∧ ∃ o, d = o * 2 ^ t.toNat ∧ 1 ≤ o ∧ o * f % 2 ^ b.toNat = 1 ∧ a = -r * f % 2 ^ b.toNat ∧ l = (2 ^ b.toNat - 1 - r) / d
theorem mod_uniq {x y S k : Int} (x0 : 0 ≤ x) (x1 : x < S) (y0 : 0 ≤ y) (y1 : y < S) (e : x = y + S * k) : x = y := by
  have hk : k = 0 := by
    rcases Int.lt_trichotomy k 0 with h | h | h
    · have : S * k ≤ S * (-1) := Int.mul_le_mul_of_nonneg_left (by omega) (by omega)
      omega
    · exact h
    · have : S * 1 ≤ S * k := Int.mul_le_mul_of_nonneg_left (by omega) (by omega)
      omega
  rw [e, hk]; omega
theorem rest_core {S P Q o f r n v d k k' : Int} (hS : S = P * Q) (hP : 0 < P) (hQ : 0 < Q) (ho : 1 ≤ o) (hd : d = o * P) (hf : o * f = 1 + S * k) (hv : v = f * (n - r) + S * k') (v0 : 0 ≤ v) (v1 : v < S) (r0 : 0 ≤ r) (r1 : r < d) (n0 : 0 ≤ n) (n1 : n < S) :
    v / P + v % P * Q ≤ (S - 1 - r) / d ↔ n % d = r := by
  have hdp : 0 < d := by omega
  have hPd : P * 1 ≤ P * o := Int.mul_le_mul_of_nonneg_left ho (by omega)
  rw [Int.le_ediv_iff_mul_le hdp]
  constructor
  · intro hm
    have q0 : 0 ≤ v / P := Int.ediv_nonneg v0 (by omega)
    have w0 : 0 ≤ v % P := Int.emod_nonneg _ (by omega)
    have w1 : v % P = 0 := by
      rcases Int.lt_or_le 0 (v % P) with h | h
      · exfalso
        have h1 : 1 * Q ≤ v % P * Q := Int.mul_le_mul_of_nonneg_right (by omega) (by omega)
        have h2 : Q * d ≤ (v / P + v % P * Q) * d := Int.mul_le_mul_of_nonneg_right (by omega) (by omega)
        have h3 : Q * P ≤ Q * d := Int.mul_le_mul_of_nonneg_left (by rw [hd, Int.mul_comm o P]; omega) (by omega)
        rw [Int.mul_comm Q P, ← hS] at h3
        omega
      · omega
    have hvp : v = P * (v / P) := by
      have := Int.mul_ediv_add_emod v P
      omega
    rw [w1, Int.zero_mul, Int.add_zero] at hm
    generalize v / P = m at *
    have hmd : 0 ≤ m * d := Int.mul_nonneg q0 (by omega)
    have e : m * d + r = n := by
      refine mod_uniq (S := S) (k := o * k' + k * (n - r)) (by omega) (by omega) n0 n1 ?_
      have : o * v = o * f * (n - r) + o * (S * k') := by rw [hv]; grind
      rw [hf, hvp] at this
      rw [hd]
      grind
    rw [← e, Int.add_comm, Int.add_mul_emod_self_right]
    exact Int.emod_eq_of_lt r0 r1
  · intro hn
    have en := Int.mul_ediv_add_emod n d
    rw [hn] at en
    have q0 : 0 ≤ n / d := Int.ediv_nonneg n0 (by omega)
    generalize n / d = q at *
    have h1 : P * q ≤ d * q := Int.mul_le_mul_of_nonneg_right (by rw [hd, Int.mul_comm o P]; omega) q0
    have h0 : 0 ≤ P * q := Int.mul_nonneg (by omega) q0
    have ev : v = P * q := by
      refine mod_uniq (S := S) (k := k' + k * (P * q)) v0 v1 h0 (by omega) ?_
      rw [hv, ← en]
      have : f * (d * q + r - r) = o * f * (P * q) := by rw [hd]; grind
      rw [this, hf]
      grind
    rw [ev, Int.mul_ediv_cancel_left _ (by omega), Int.mul_emod_right, Int.zero_mul, Int.add_zero, Int.mul_comm q d]
    omega
theorem rest_law {f a t l d r b n : Int} (h : RestOk f a t l d r b) (r0 : 0 ≤ r) (r1 : r < d) (n0 : 0 ≤ n) (n1 : n < 2 ^ b.toNat) : passesM f a t l n b = decide (n % d = r) := by
  obtain ⟨⟨b0, b1, f0, f1, a0, a1, t0, t1, l0, l1⟩, o, hd, ho, hof, ha, hl⟩ := h
  unfold passesM turnedM
  have hS : (2 : Int) ^ b.toNat = 2 ^ t.toNat * 2 ^ (b - t).toNat := by rw [← Int.pow_add]; congr 1; omega
  refine decide_eq_decide.mpr ?_
  rw [hl]
  have e1 := Int.mul_ediv_add_emod (o * f) (2 ^ b.toNat)
  have e2 := Int.mul_ediv_add_emod (f * n + a) (2 ^ b.toNat)
  have e3 := Int.mul_ediv_add_emod (-r * f) (2 ^ b.toNat)
  rw [hof] at e1
  rw [← ha] at e3
  refine rest_core (f := f) (k := o * f / 2 ^ b.toNat) (k' := -(-r * f / 2 ^ b.toNat) - (f * n + a) / 2 ^ b.toNat) hS (two_pos _) (two_pos _) ho hd (by rw [Int.add_comm]; exact e1.symm) ?_ (Int.emod_nonneg _ (by have := two_pos b.toNat; omega)) (Int.emod_lt_of_pos _ (two_pos _)) r0 r1 n0 n1
  generalize (f * n + a) / 2 ^ b.toNat = q at *
  generalize (f * n + a) % 2 ^ b.toNat = v at *
  generalize -r * f / 2 ^ b.toNat = u at *
  grind
end Dl
-- uses rot ring rest
namespace Dl
open PySem L2
/-! ### sums over 0 .. n-1, floor sums -/
def sumZ (g : Nat → Int) : Nat → Int
  | 0 => 0
  | n + 1 => sumZ g n + g n
theorem sumZ_congr {g h : Nat → Int} : ∀ {n : Nat}, (∀ i, i < n → g i = h i) → sumZ g n = sumZ h n
  | 0, _ => rfl
  | n + 1, e => by
    unfold sumZ
    rw [sumZ_congr fun i hi => e i (by omega), e n (by omega)]
theorem sumZ_add (g h : Nat → Int) : ∀ n : Nat, sumZ (fun i => g i + h i) n = sumZ g n + sumZ h n
  | 0 => rfl
  | n + 1 => by
    unfold sumZ
    rw [sumZ_add g h n]; omega
theorem sumZ_sub (g h : Nat → Int) : ∀ n : Nat, sumZ (fun i => g i - h i) n = sumZ g n - sumZ h n
  | 0 => rfl
  | n + 1 => by
    unfold sumZ
    rw [sumZ_sub g h n]; omega
theorem sumZ_const (c : Int) : ∀ n : Nat, sumZ (fun _ => c) n = c * n
  | 0 => by simp [sumZ]
  | n + 1 => by
    unfold sumZ
    rw [sumZ_const c n]
    have : ((n + 1 : Nat) : Int) = (n : Int) + 1 := by omega
    rw [this, Int.mul_add, Int.mul_one]
theorem sumZ_zero {g : Nat → Int} {n : Nat} (h : ∀ i, i < n → g i = 0) : sumZ g n = 0 := by
  rw [sumZ_congr (h := fun _ => 0) h, sumZ_const]; simp
theorem sumZ_split (g : Nat → Int) (m : Nat) : ∀ n : Nat, sumZ g (m + n) = sumZ g m + sumZ (fun i => g (m + i)) n
  | 0 => by simp [sumZ]
  | n + 1 => by
    show sumZ g (m + n) + g (m + n) = sumZ g m + (sumZ (fun i => g (m + i)) n + g (m + n))
    rw [sumZ_split g m n]; omega
theorem sumZ_head (g : Nat → Int) (n : Nat) : sumZ g (n + 1) = g 0 + sumZ (fun i => g (i + 1)) n := by
  have := sumZ_split g 1 n
  rw [Nat.add_comm 1 n] at this
  rw [this]
  have e : sumZ g 1 = g 0 := by simp [sumZ]
  rw [e]
  congr 1
  exact sumZ_congr fun i _ => by rw [Nat.add_comm]
theorem sumZ_rev (g : Nat → Int) : ∀ n : Nat, sumZ (fun i => g (n - 1 - i)) n = sumZ g n
  | 0 => rfl
  | n + 1 => by
    rw [sumZ_head]
    show g (n + 1 - 1 - 0) + _ = sumZ g n + g n
    have e : sumZ (fun i => g (n + 1 - 1 - (i + 1))) n = sumZ (fun i => g (n - 1 - i)) n := sumZ_congr fun i hi => by congr 1; omega
    rw [e, sumZ_rev g n]
    have : n + 1 - 1 - 0 = n := by omega
    rw [this]; omega
def fsum (a b m : Int) (n : Nat) : Int := sumZ (fun i => (a * i + b) / m) n
theorem tri : ∀ n : Nat, (n : Int) * ((n : Int) - 1) / 2 = sumZ (fun i => (i : Int)) n
  | 0 => by simp [sumZ]
  | n + 1 => by
    unfold sumZ
    rw [← tri n]
    have e : ((n + 1 : Nat) : Int) * (((n + 1 : Nat) : Int) - 1) = (n : Int) * ((n : Int) - 1) + (n : Int) * 2 := by
      have : ((n + 1 : Nat) : Int) = (n : Int) + 1 := by omega
      rw [this]; grind
    rw [e, Int.add_mul_ediv_right _ _ (by decide)]
theorem sumZ_mul (c : Int) (g : Nat → Int) : ∀ n : Nat, sumZ (fun i => c * g i) n = c * sumZ g n
  | 0 => by simp [sumZ]
  | n + 1 => by
    unfold sumZ
    rw [sumZ_mul c g n, Int.mul_add]
/-- the whole parts taken out -/
theorem fsum_out (a b m : Int) (hm : 0 < m) (n : Nat) : fsum a b m n = a / m * ((n : Int) * ((n : Int) - 1) / 2) + b / m * n + fsum (a % m) (b % m) m n := by
  unfold fsum
  rw [tri, ← sumZ_mul, ← sumZ_const, ← sumZ_add, ← sumZ_add]
  refine sumZ_congr fun i _ => ?_
  have e : a * i + b = (a % m * i + b % m) + (a / m * i + b / m) * m := by
    have h1 := Int.mul_ediv_add_emod a m
    have h2 := Int.mul_ediv_add_emod b m
    generalize a / m = p at *
    generalize a % m = q at *
    generalize b / m = r at *
    generalize b % m = s at *
    subst h1 h2
    grind
  rw [e, Int.add_mul_ediv_right _ _ (by omega)]
  omega
theorem fsum_none {a b m : Int} {n : Nat} (ha : 0 ≤ a) (hb : 0 ≤ b) (h : a * n + b < m) : fsum a b m n = 0 := by
  refine sumZ_zero fun i hi => Int.ediv_eq_zero_of_lt ?_ ?_
  · have := Int.mul_nonneg ha (show (0 : Int) ≤ i by omega); omega
  · have : a * (i : Int) ≤ a * n := Int.mul_le_mul_of_nonneg_left (by omega) ha
    omega
/-- the sum told by its steps -/
def gsum (a m R : Int) : Int := sumZ (fun j => (R - m * ((j : Int) + 1)) / a) (R / m).toNat
theorem gsum_step (a m R : Int) (ha : 0 < a) (hm : 0 < m) (hR : 0 ≤ R) : gsum a m (R + a) = gsum a m R + R / m := by
  unfold gsum
  have k0 : 0 ≤ R / m := Int.ediv_nonneg hR (by omega)
  have k1 : R / m ≤ (R + a) / m := Int.ediv_le_ediv hm (by omega)
  obtain ⟨c, hc⟩ : ∃ c : Nat, ((R + a) / m).toNat = (R / m).toNat + c := ⟨((R + a) / m).toNat - (R / m).toNat, by omega⟩
  rw [hc, sumZ_split]
  have e2 : sumZ (fun i => (R + a - m * ((((R / m).toNat + i : Nat) : Int) + 1)) / a) c = 0 := by
    refine sumZ_zero fun i hi => Int.ediv_eq_zero_of_lt ?_ ?_
    · have h1 : m * ((((R / m).toNat + i : Nat) : Int) + 1) ≤ m * ((R + a) / m) := Int.mul_le_mul_of_nonneg_left (by omega) (by omega)
      have h2 := Int.mul_ediv_add_emod (R + a) m
      have h3 := Int.emod_nonneg (R + a) (show m ≠ 0 by omega)
      omega
    · have h1 : m * (R / m + 1) ≤ m * ((((R / m).toNat + i : Nat) : Int) + 1) := Int.mul_le_mul_of_nonneg_left (by omega) (by omega)
      have h2 := Int.mul_ediv_add_emod R m
      have h3 := Int.emod_lt_of_pos R hm
      rw [Int.mul_add, Int.mul_one] at h1
      omega
  rw [e2, Int.add_zero]
  have e1 : sumZ (fun j => (R + a - m * ((j : Int) + 1)) / a) (R / m).toNat = sumZ (fun j => (R - m * ((j : Int) + 1)) / a + 1) (R / m).toNat := by
    refine sumZ_congr fun i _ => ?_
    have : R + a - m * ((i : Int) + 1) = (R - m * ((i : Int) + 1)) + 1 * a := by omega
    rw [this, Int.add_mul_ediv_right _ _ (by omega)]
  rw [e1, sumZ_add, sumZ_const]
  omega
theorem fsum_gsum (a b m : Int) (ha : 0 < a) (hm : 0 < m) (hb : 0 ≤ b) (hb1 : b < m) : ∀ n : Nat, fsum a b m n = gsum a m (a * n + b)
  | 0 => by
    have e : a * ((0 : Nat) : Int) + b = b := by simp
    rw [e]
    unfold fsum gsum
    rw [Int.ediv_eq_zero_of_lt hb hb1]
    rfl
  | n + 1 => by
    have e : a * ((n + 1 : Nat) : Int) + b = a * n + b + a := by
      have : ((n + 1 : Nat) : Int) = (n : Int) + 1 := by omega
      rw [this, Int.mul_add]; omega
    have h0 : 0 ≤ a * (n : Int) := Int.mul_nonneg (by omega) (by omega)
    rw [e, gsum_step a m _ ha hm (by omega), ← fsum_gsum a b m ha hm hb hb1 n]
    rfl
/-- turned about: the roles of a and m exchanged -/
theorem fsum_swap (a b m : Int) (ha : 0 < a) (hm : 0 < m) (hb : 0 ≤ b) (hb1 : b < m) (n : Nat) : fsum a b m n = fsum m ((a * n + b) % m) a ((a * n + b) / m).toNat := by
  rw [fsum_gsum a b m ha hm hb hb1 n]
  unfold gsum fsum
  have h0 : 0 ≤ a * (n : Int) := Int.mul_nonneg (by omega) (by omega)
  generalize hR : a * (n : Int) + b = R
  have k0 : 0 ≤ R / m := Int.ediv_nonneg (by omega) (by omega)
  rw [← sumZ_rev]
  refine sumZ_congr fun i hi => ?_
  congr 1
  have h2 := Int.mul_ediv_add_emod R m
  have h3 : (((R / m).toNat - 1 - i : Nat) : Int) + 1 = R / m - i := by omega
  rw [h3, Int.mul_sub]
  omega
end Dl
-- uses rot ring rest fsum
namespace Dl
open PySem L2
theorem Sm.div {a : Nat} {t o : Int} (h : Sm a t) (ho : 0 < o) : Sm a (t / o) := by
  have h1 := h.lt
  have h2 := h.gt
  rcases Int.lt_or_le t 0 with h0 | h0
  · have h3 : t ≤ t / o := by
      rw [Int.le_ediv_iff_mul_le ho]
      have : t * o ≤ t * 1 := Int.mul_le_mul_of_nonpos_left (by omega) (by omega)
      omega
    have h4 : t / o < 0 := Int.ediv_neg_of_neg_of_pos h0 ho
    exact sm_of (by omega) (by omega)
  · have h3 : 0 ≤ t / o := Int.ediv_nonneg h0 (by omega)
    have h4 : t / o ≤ t := Int.ediv_le_self _ h0
    exact sm_of (by omega) (by omega)
theorem Sm.le {a : Nat} {x o : Int} (h : Sm a o) (h0 : 0 ≤ x) (h1 : x ≤ o) : Sm a x := by
  have h2 := h.lt
  exact sm_of (by omega) (by omega)
theorem one_floor (y l S : Int) (hS : 0 < S) (l0 : 0 ≤ l) (l1 : l < S) : y / S - (y - l - 1) / S = if y % S ≤ l then 1 else 0 := by
  have h1 := Int.mul_ediv_add_emod y S
  have h2 := Int.emod_nonneg y (show S ≠ 0 by omega)
  have h3 := Int.emod_lt_of_pos y hS
  generalize y / S = q at *
  generalize y % S = r at *
  have e : y - l - 1 = (r - l - 1) + q * S := by rw [Int.mul_comm q S]; omega
  rw [e, Int.add_mul_ediv_right _ _ (by omega)]
  split
  · have : (r - l - 1) / S = -1 := by
      have e2 : r - l - 1 = (r - l - 1 + S) + (-1) * S := by omega
      rw [e2, Int.add_mul_ediv_right _ _ (by omega), Int.ediv_eq_zero_of_lt (by omega) (by omega)]
      omega
    omega
  · have : (r - l - 1) / S = 0 := Int.ediv_eq_zero_of_lt (by omega) (by omega)
    omega
def ind (f a l S x : Int) : Int := if (f * x + a) % S ≤ l then 1 else 0
def cnt (f a l S low : Int) (n : Nat) : Int := sumZ (fun i => ind f a l S (low + i)) n
theorem cnt_floor (f a l S low : Int) (n : Nat) (hS : 0 < S) (l0 : 0 ≤ l) (l1 : l < S) : fsum f (f * low + a) S n - fsum f (f * low + a - l - 1) S n = cnt f a l S low n := by
  unfold fsum cnt ind
  rw [← sumZ_sub]
  refine sumZ_congr fun i _ => ?_
  have e : f * (i : Int) + (f * low + a - l - 1) = (f * (low + i) + a) - l - 1 := by rw [Int.mul_add]; omega
  have e2 : f * (i : Int) + (f * low + a) = f * (low + i) + a := by rw [Int.mul_add]; omega
  rw [e, e2]
  exact one_floor _ l S hS l0 l1
theorem cnt_split (f a l S low : Int) (m n : Nat) : cnt f a l S low (m + n) = cnt f a l S low m + cnt f a l S (low + m) n := by
  unfold cnt
  rw [sumZ_split]
  congr 1
  refine sumZ_congr fun i _ => ?_
  congr 1
  omega
theorem cnt_one (f a l S low : Int) : cnt f a l S low 1 = ind f a l S low := by
  unfold cnt sumZ sumZ
  simp
theorem sumZ_single {g : Nat → Int} {i0 : Nat} : ∀ {n : Nat}, i0 < n → g i0 = 1 → (∀ i, i < n → i ≠ i0 → g i = 0) → sumZ g n = 1
  | 0, h, _, _ => absurd h (by omega)
  | n + 1, h, h1, h2 => by
    unfold sumZ
    rcases Nat.lt_or_ge i0 n with hlt | hge
    · rw [sumZ_single hlt h1 fun i hi hne => h2 i (by omega) hne, h2 n (by omega) (by omega)]; rfl
    · obtain rfl : i0 = n := by omega
      rw [h1, sumZ_zero fun i hi => h2 i (by omega) (by omega)]; rfl
theorem one_place {f x S : Int} (a l : Int) (hS : 0 < S) (hx : f * x % S = 1 % S) (l0 : 0 ≤ l) (l1 : l < S) : sumZ (fun i => if (f * (i : Int) + a) % S = l then 1 else 0) S.toNat = 1 := by
  have q0 := Int.emod_nonneg (x * (l - a)) (show S ≠ 0 by omega)
  have q1 := Int.emod_lt_of_pos (x * (l - a)) hS
  have hd : S ∣ f * x - 1 := Int.dvd_of_emod_eq_zero (Int.emod_eq_emod_iff_emod_sub_eq_zero.mp hx)
  refine sumZ_single (i0 := (x * (l - a) % S).toNat) (by omega) ?_ ?_
  · rw [Int.toNat_of_nonneg q0]
    refine if_pos ?_
    obtain ⟨k, hk⟩ := hd
    have h1 := Int.mul_ediv_add_emod (x * (l - a)) S
    generalize x * (l - a) / S = u at *
    generalize x * (l - a) % S = r at *
    have e : f * r + a = l + (k * (l - a) - f * u) * S := by
      have : r = x * (l - a) - S * u := by omega
      rw [this]
      have : f * x = 1 + S * k := by omega
      have : f * (x * (l - a) - S * u) = f * x * (l - a) - f * u * S := by grind
      rw [this, ‹f * x = 1 + S * k›]
      grind
    rw [e, Int.add_mul_emod_self_right, Int.emod_eq_of_lt l0 l1]
  · intro i hi hne
    refine if_neg fun he => hne ?_
    obtain ⟨k, hk⟩ := hd
    have h1 := Int.mul_ediv_add_emod (x * (l - a)) S
    have h2 := Int.mul_ediv_add_emod (f * i + a) S
    rw [he] at h2
    generalize x * (l - a) / S = u at *
    generalize x * (l - a) % S = r at *
    generalize (f * (i : Int) + a) / S = v at *
    have : (i : Int) = r := by
      refine mod_uniq (S := S) (k := u + x * v - k * i) (by omega) (by omega) q0 q1 ?_
      have e1 : l - a = f * i - S * v := by omega
      rw [e1] at h1
      have e2 : x * (f * i - S * v) = f * x * i - S * (x * v) := by grind
      rw [e2] at h1
      have e3 : f * x = 1 + S * k := by omega
      rw [e3] at h1
      have e4 : (1 + S * k) * (i : Int) = i + S * (k * i) := by grind
      rw [e4] at h1
      rw [Int.mul_sub, Int.mul_add]
      omega
    omega
theorem cnt_all {f x S : Int} (a : Int) (hS : 0 < S) (hx : f * x % S = 1 % S) : ∀ l : Nat, (l : Int) < S → cnt f a l S 0 S.toNat = l + 1
  | 0, h => by
    rw [← show (1 : Int) = ((0 : Nat) : Int) + 1 from rfl, ← one_place a 0 hS hx (by omega) (by omega)]
    refine sumZ_congr fun i _ => ?_
    unfold ind
    have := Int.emod_nonneg (f * (0 + (i : Int)) + a) (show S ≠ 0 by omega)
    rw [Int.zero_add] at *
    split <;> split <;> omega
  | l + 1, h => by
    have ih := cnt_all a hS hx l (by omega)
    have h1 := one_place a ((l + 1 : Nat) : Int) hS hx (by omega) (by omega)
    have e : cnt f a ((l + 1 : Nat) : Int) S 0 S.toNat = cnt f a l S 0 S.toNat + sumZ (fun i => if (f * (i : Int) + a) % S = ((l + 1 : Nat) : Int) then 1 else 0) S.toNat := by
      unfold cnt
      rw [← sumZ_add]
      refine sumZ_congr fun i _ => ?_
      unfold ind
      rw [Int.zero_add]
      split <;> split <;> split <;> omega
    rw [e, ih, h1]
    omega
theorem odd_inv (f : Int) (b : Nat) (hf : f % 2 = 1) (hb : 1 ≤ b) : ∃ x, f * x % 2 ^ b = 1 % 2 ^ b := by
  have h : ∀ i : Nat, ∃ x, (2 : Int) ^ min (2 ^ i) b ∣ 1 - f * x := by
    intro i
    induction i with
    | zero =>
      refine ⟨1, ?_⟩
      rw [Nat.min_eq_left hb]
      exact Int.dvd_of_emod_eq_zero (by omega)
    | succ i ih =>
      obtain ⟨x, hx⟩ := ih
      exact ⟨_, newton f x b i hx⟩
  obtain ⟨x, hx⟩ := h b
  have h2 := two_le b hb
  refine ⟨x, ?_⟩
  rw [newton_end f x b b hb hx (Nat.le_of_lt Nat.lt_two_pow_self), Int.emod_eq_of_lt (by omega) (by omega)]
theorem cnt_ring {f a l : Int} {b : Nat} (hf : f % 2 = 1) (hb : 1 ≤ b) (l0 : 0 ≤ l) (l1 : l < 2 ^ b) : cnt f a l (2 ^ b) 0 ((2 : Int) ^ b).toNat = l + 1 := by
  obtain ⟨x, hx⟩ := odd_inv f b hf hb
  have := cnt_all a (two_pos b) hx l.toNat (by omega)
  rw [Int.toNat_of_nonneg l0] at this
  exact this
end Dl
-- uses rot ring rest fsum count
namespace Dl
open PySem L2
/-! ### rows of programs -/
inductive RowM where
  | given
  | number (n : Int)
  | add (i j : Nat)
  | sub (i j : Nat)
  | times (i : Nat) (n : Int)
  | floor (i : Nat) (k : Int)
  | rest (i : Nat) (k : Int)
  | quo (i : Nat) (k : Int)
  | rem (i : Nat) (k : Int)
def rowD : RowM → D
  | .given => .tup [.str "given"]
  | .number n => .tup [.str "number", .int n]
  | .add i j => .tup [.str "add", .int i, .int j]
  | .sub i j => .tup [.str "sub", .int i, .int j]
  | .times i n => .tup [.str "times", .int i, .int n]
  | .floor i k => .tup [.str "floor", .int i, .int k]
  | .rest i k => .tup [.str "rest", .int i, .int k]
  | .quo i k => .tup [.str "quo", .int i, .int k]
  | .rem i k => .tup [.str "rem", .int i, .int k]
theorem cmp_row (n : Nat) (r : RowM) : cmpD (n + 1) (rowD r) = true := by
  cases r <;> simp [rowD, cmpD, cmpL, word_ok]
def RowOk (at' : Nat) : RowM → Prop
  | .given => True
  | .number n => Sm 98 n
  | .add i j => i < at' ∧ j < at'
  | .sub i j => i < at' ∧ j < at'
  | .times i n => i < at' ∧ Sm 98 n
  | .floor i k => i < at' ∧ 1 ≤ k ∧ Sm 100 k
  | .rest i k => i < at' ∧ 1 ≤ k ∧ Sm 100 k
  | .quo i k => i < at' ∧ 1 ≤ k ∧ Sm 100 k
  | .rem i k => i < at' ∧ 1 ≤ k ∧ Sm 100 k
def isStep : RowM → Bool
  | .given => true
  | .number _ => true
  | .add _ _ => true
  | .sub _ _ => true
  | .times _ _ => true
  | _ => false
def quoM (v k : Int) : Int := if v < 0 then -(-v / k) else v / k
def rowV (r : RowM) (vs : List Int) (n : Int) : Int := match r with
  | .given => n
  | .number m => m
  | .add i j => vs.getD i 0 + vs.getD j 0
  | .sub i j => vs.getD i 0 - vs.getD j 0
  | .times i m => vs.getD i 0 * m
  | .floor i k => vs.getD i 0 / k
  | .rest i k => vs.getD i 0 % k
  | .quo i k => quoM (vs.getD i 0) k
  | .rem i k => vs.getD i 0 - k * quoM (vs.getD i 0) k
def valsM : List RowM → Int → List Int → List Int
  | [], _, vs => vs
  | r :: rs, n, vs => valsM rs n (vs ++ [rowV r vs n])
def ProgOk (rs : List RowM) : Prop := ∀ i r, rs[i]? = some r → RowOk i r
def VsOk (vs : List Int) : Prop := ∀ i v, vs[i]? = some v → Sm (100 * (i + 3)) v
theorem vs_get {vs : List Int} {i : Nat} (h : VsOk vs) (hi : i < vs.length) : ∃ v, vs[i]? = some v ∧ vs.getD i 0 = v ∧ Sm (100 * (vs.length + 2)) v := by
  refine ⟨vs[i], List.getElem?_eq_getElem hi, ?_, (h i _ (List.getElem?_eq_getElem hi)).mono (by omega)⟩
  simp [hi]
theorem quo_sm {a : Nat} {v k : Int} (h : Sm a v) (hk : 1 ≤ k) : Sm a (quoM v k) := by
  unfold quoM
  split
  · exact (h.neg.div (by omega)).neg
  · exact h.div (by omega)
def i_k (k v : Int) : Int := k * (v / k)
theorem rowV_sm {r : RowM} {vs : List Int} {n : Int} (hv : VsOk vs) (hr : RowOk vs.length r) (hn : Sm 300 n) : Sm (100 * (vs.length + 3)) (rowV r vs n) := by
  cases r with
  | given => exact hn.mono (by omega)
  | number m => exact Sm.mono (show Sm 98 m from hr) (by omega)
  | add i j =>
    obtain ⟨x, hx, ex, sx⟩ := vs_get hv hr.1
    obtain ⟨y, hy, ey, sy⟩ := vs_get hv hr.2
    simp only [rowV, ex, ey]
    exact (Sm.add sx sy).mono (by omega)
  | sub i j =>
    obtain ⟨x, hx, ex, sx⟩ := vs_get hv hr.1
    obtain ⟨y, hy, ey, sy⟩ := vs_get hv hr.2
    simp only [rowV, ex, ey]
    exact (Sm.sub sx sy).mono (by omega)
  | times i m =>
    obtain ⟨x, hx, ex, sx⟩ := vs_get hv hr.1
    simp only [rowV, ex]
    exact (sx.mul hr.2).mono (by omega)
  | floor i k =>
    obtain ⟨x, hx, ex, sx⟩ := vs_get hv hr.1
    simp only [rowV, ex]
    exact (sx.div (by have := hr.2.1; omega)).mono (by omega)
  | rest i k =>
    obtain ⟨x, hx, ex, sx⟩ := vs_get hv hr.1
    have hk := hr.2.1
    simp only [rowV, ex]
    exact (hr.2.2.le (Int.emod_nonneg _ (by omega)) (Int.le_of_lt (Int.emod_lt_of_pos _ (by omega)))).mono (by omega)
  | quo i k =>
    obtain ⟨x, hx, ex, sx⟩ := vs_get hv hr.1
    simp only [rowV, ex]
    exact (quo_sm sx hr.2.1).mono (by omega)
  | rem i k =>
    obtain ⟨x, hx, ex, sx⟩ := vs_get hv hr.1
    simp only [rowV, ex]
    have hk := hr.2.1
    have h : ∀ v : Int, 0 ≤ v → 0 ≤ v - i_k k v ∧ v - i_k k v < k := fun v _ => by
      have a := Int.mul_ediv_add_emod v k
      have b := Int.emod_nonneg v (show k ≠ 0 by omega)
      have c := Int.emod_lt_of_pos v (show 0 < k by omega)
      unfold i_k
      omega
    unfold quoM
    split
    · obtain ⟨a, b⟩ := h (-x) (by omega)
      unfold i_k at a b
      rw [Int.mul_neg]
      have := (hr.2.2.le a (Int.le_of_lt b)).neg
      rw [show x - -(k * (-x / k)) = -(-x - k * (-x / k)) by omega]
      exact this.mono (by omega)
    · obtain ⟨a, b⟩ := h x (by omega)
      exact (hr.2.2.le a (Int.le_of_lt b)).mono (by omega)
theorem vsOk_add {vs : List Int} {x : Int} (hv : VsOk vs) (hx : Sm (100 * (vs.length + 3)) x) : VsOk (vs ++ [x]) := by
  intro i v h
  rcases Nat.lt_trichotomy i vs.length with hlt | rfl | hgt
  · rw [List.getElem?_append_left hlt] at h
    exact hv i v h
  · rw [List.getElem?_append_right (Nat.le_refl _)] at h
    simp at h
    subst h
    exact hx
  · rw [List.getElem?_append_right (by omega)] at h
    have : i - vs.length = (i - vs.length - 1) + 1 := by omega
    rw [this] at h
    simp at h
/-- the values by the first rows -/
def runM (rs : List RowM) (n : Int) : Nat → List Int
  | 0 => []
  | i + 1 => match rs[i]? with
    | some r => runM rs n i ++ [rowV r (runM rs n i) n]
    | none => runM rs n i
theorem runM_len (rs : List RowM) (n : Int) : ∀ i : Nat, i ≤ rs.length → (runM rs n i).length = i
  | 0, _ => rfl
  | i + 1, h => by
    unfold runM
    rw [List.getElem?_eq_getElem (show i < rs.length by omega)]
    show (runM rs n i ++ _).length = i + 1
    rw [List.length_append, runM_len rs n i (by omega)]
    rfl
theorem runM_ok {rs : List RowM} {n : Int} (hp : ProgOk rs) (hn : Sm 300 n) : ∀ i : Nat, i ≤ rs.length → VsOk (runM rs n i)
  | 0, _ => fun i v h => by simp [runM] at h
  | i + 1, h => by
    have ih := runM_ok hp hn i (by omega)
    have hl := runM_len rs n i (by omega)
    unfold runM
    have e := List.getElem?_eq_getElem (show i < rs.length by omega)
    rw [e]
    exact vsOk_add ih (rowV_sm ih (by rw [hl]; exact hp i _ e) hn)
def valsR (rs : List RowM) (n : Int) : List Int := runM rs n rs.length
theorem pure_row (r : RowM) : pureD (rowD r) = true := by
  cases r <;> rfl
theorem prog_add {rs : List RowM} {r : RowM} (h : ProgOk rs) (hr : RowOk rs.length r) : ProgOk (rs ++ [r]) := by
  intro i x hx
  rcases Nat.lt_trichotomy i rs.length with hlt | rfl | hgt
  · rw [List.getElem?_append_left hlt] at hx
    exact h i x hx
  · rw [List.getElem?_append_right (Nat.le_refl _)] at hx
    simp at hx
    subst hx
    exact hr
  · rw [List.getElem?_append_right (by omega)] at hx
    have : i - rs.length = (i - rs.length - 1) + 1 := by omega
    rw [this] at hx
    simp at hx
theorem cmp_rows (n : Nat) : ∀ rs : List RowM, cmpL (n + 1) (rs.map rowD) = true
  | [] => by unfold cmpL; rfl
  | r :: rs => by
    show cmpL (n + 1) (rowD r :: rs.map rowD) = true
    unfold cmpL
    rw [cmp_row, cmp_rows n rs]
    rfl
theorem pure_rows : ∀ rs : List RowM, pureL (rs.map rowD) = true
  | [] => rfl
  | r :: rs => by
    show (pureD (rowD r) && pureL (rs.map rowD)) = true
    rw [pure_row, pure_rows rs]
    rfl
end Dl
-- uses rot ring rest fsum count
namespace Dl
open PySem L2
/-! ### greatest common divisors, normal forms of lines -/
def gcdI (a b : Int) : Int := (Nat.gcd a.natAbs b.natAbs : Nat)
theorem gcdI_pos {a b : Int} (h : 1 ≤ b) : 0 < gcdI a b := by
  unfold gcdI
  have : 0 < Nat.gcd a.natAbs b.natAbs := Nat.gcd_pos_of_pos_right _ (by omega)
  omega
theorem gcdI_le {a b : Int} (h : 1 ≤ b) : gcdI a b ≤ b := by
  unfold gcdI
  have : Nat.gcd a.natAbs b.natAbs ≤ b.natAbs := Nat.gcd_le_right _ (by omega)
  omega
theorem gcdI_left (a b : Int) : ∃ k, a = gcdI a b * k := by
  obtain ⟨k, hk⟩ := Nat.gcd_dvd_left a.natAbs b.natAbs
  rcases Int.natAbs_eq a with h | h
  · exact ⟨k, by rw [h]; unfold gcdI; rw [Int.natAbs_natCast, ← Int.natCast_mul, ← hk]⟩
  · refine ⟨-(k : Int), ?_⟩
    unfold gcdI
    rw [Int.mul_neg, ← Int.natCast_mul, ← hk]
    omega
theorem gcdI_right (a b : Int) : ∃ k, b = gcdI a b * k := by
  obtain ⟨k, hk⟩ := Nat.gcd_dvd_right a.natAbs b.natAbs
  rcases Int.natAbs_eq b with h | h
  · exact ⟨k, by rw [h]; unfold gcdI; rw [Int.natAbs_natCast, ← Int.natCast_mul, ← hk]⟩
  · refine ⟨-(k : Int), ?_⟩
    unfold gcdI
    rw [Int.mul_neg, ← Int.natCast_mul, ← hk]
    omega
theorem gcdI_mul {g a b : Int} (h : 0 ≤ g) : gcdI (g * a) (g * b) = g * gcdI a b := by
  unfold gcdI
  rw [Int.natAbs_mul, Int.natAbs_mul, Nat.gcd_mul_left, Int.natCast_mul]
  have : (g.natAbs : Int) = g := by omega
  rw [this]
/-- the three numbers of the normal form -/
abbrev Tr := Int × Int × Int
def nrm (t p o : Int) : Tr := (t / gcdI t o, p / gcdI t o, o / gcdI t o)
theorem div_left {g k : Int} (h : 0 < g) : g * k / g = k := Int.mul_ediv_cancel_left k (by omega)
theorem nrm_mul {g t p o : Int} (hg : 0 < g) (ho : 1 ≤ o) : nrm (g * t) p (g * o) = nrm t (p / g) o := by
  have h1 := gcdI_pos (a := t) ho
  unfold nrm
  rw [gcdI_mul (by omega), Int.mul_ediv_mul_of_pos _ _ hg, Int.mul_ediv_mul_of_pos _ _ hg, Int.ediv_ediv_of_nonneg (by omega)]
/-- a line is its normal form times something -/
theorem nrm_of {t p o : Int} (ho : 1 ≤ o) : ∃ g, 0 < g ∧ t = g * (nrm t p o).1 ∧ p / g = (nrm t p o).2.1 ∧ o = g * (nrm t p o).2.2 ∧ 1 ≤ (nrm t p o).2.2 := by
  have hg := gcdI_pos (a := t) ho
  obtain ⟨a, ha⟩ := gcdI_left t o
  obtain ⟨b, hb⟩ := gcdI_right t o
  have e1 : t / gcdI t o = a := by
    have := div_left (g := gcdI t o) (k := a) hg
    rw [← ha] at this; exact this
  have e2 : o / gcdI t o = b := by
    have := div_left (g := gcdI t o) (k := b) hg
    rw [← hb] at this; exact this
  refine ⟨gcdI t o, hg, ?_, rfl, ?_, ?_⟩
  · show t = gcdI t o * (t / gcdI t o)
    rw [e1]; exact ha
  · show o = gcdI t o * (o / gcdI t o)
    rw [e2]; exact hb
  · show 1 ≤ o / gcdI t o
    rw [e2]
    rcases Int.lt_or_le 0 b with z | z
    · omega
    · have := Int.mul_nonpos_of_nonneg_of_nonpos (Int.le_of_lt hg) z
      omega
theorem nrm_coprime {t p o : Int} (ho : 1 ≤ o) : gcdI (nrm t p o).1 (nrm t p o).2.2 = 1 := by
  obtain ⟨g, hg, e1, e2, e3, e4⟩ := nrm_of (t := t) (p := p) ho
  have hp := gcdI_pos (a := t) ho
  have h : gcdI t o = gcdI t o * gcdI (nrm t p o).1 (nrm t p o).2.2 := by
    rw [← gcdI_mul (by omega)]
    have a1 : gcdI t o * (nrm t p o).1 = t := by
      obtain ⟨a, ha⟩ := gcdI_left t o
      show gcdI t o * (t / gcdI t o) = t
      have := div_left (g := gcdI t o) (k := a) hp
      rw [← ha] at this; rw [this]; exact ha.symm
    have a2 : gcdI t o * (nrm t p o).2.2 = o := by
      obtain ⟨a, ha⟩ := gcdI_right t o
      show gcdI t o * (o / gcdI t o) = o
      have := div_left (g := gcdI t o) (k := a) hp
      rw [← ha] at this; rw [this]; exact ha.symm
    rw [a1, a2]
  have h2 : gcdI t o * gcdI (nrm t p o).1 (nrm t p o).2.2 = gcdI t o * 1 := by rw [← h, Int.mul_one]
  exact Int.eq_of_mul_eq_mul_left (by omega) h2
def trD (x : Tr) : D := .tup [.int x.1, .int x.2.1, .int x.2.2]
/-- the value of a line -/
def lnV (t p o n : Int) : Int := (t * n + p) / o
theorem lnV_mul {g t p o n : Int} (hg : 0 < g) (ho : 1 ≤ o) : lnV (g * t) p (g * o) n = lnV t (p / g) o n := by
  unfold lnV
  rw [← Int.ediv_ediv_of_nonneg (show 0 ≤ g by omega)]
  congr 1
  rw [Int.mul_assoc, Int.add_comm, Int.add_mul_ediv_left _ _ (by omega), Int.add_comm]
theorem lnV_nrm {t p o n : Int} (ho : 1 ≤ o) : lnV (nrm t p o).1 (nrm t p o).2.1 (nrm t p o).2.2 n = lnV t p o n := by
  obtain ⟨g, hg, e1, e2, e3, e4⟩ := nrm_of (t := t) (p := p) ho
  have h := lnV_mul (t := (nrm t p o).1) (p := p) (n := n) hg e4
  rw [← e1, ← e3, e2] at h
  exact h.symm
/-! ### two tuples of three ints -/
theorem shaped_ints : ∀ xs : List Int, SeqAt.shaped (.tuple (xs.map PyData.int)) = true := fun xs => by
  have h : cmpD 64 (.tup (xs.map D.int)) = true := by
    show cmpL 63 _ = true
    exact cmp_ints 63 xs
  obtain ⟨p, e, s, _⟩ := shaped_of h
  have e2 : ∀ ys : List Int, toPL (ys.map D.int) = some (ys.map PyData.int) := by
    intro ys
    induction ys with
    | nil => rfl
    | cons y r ih =>
      show toPL (D.int y :: r.map D.int) = _
      unfold toPL
      rw [ih]
      rfl
  have e3 : toP (.tup (xs.map D.int)) = some (.tuple (xs.map PyData.int)) := by unfold toP; rw [e2]; rfl
  rw [e3] at e
  cases e
  exact s
theorem f_eqT3 {f : Bool → Bool} {M : Mem} {R : DR} {a b c d e g : Int} : oEqG f (.tup [.int a, .int b, .int c]) (.tup [.int d, .int e, .int g]) M R = R (.bl (f (decide (a = d) && (decide (b = e) && decide (c = g))))) M := by
  show (SeqAt.shaped (.tuple ([a, b, c].map PyData.int)) = true ∧ SeqAt.shaped (.tuple ([d, e, g].map PyData.int)) = true ∧ R (.bl (f (PyData.eqv (.tuple [.int a, .int b, .int c]) (.tuple [.int d, .int e, .int g])))) M) = _
  rw [shaped_ints, shaped_ints]
  have h : PyData.eqv (.tuple [.int a, .int b, .int c]) (.tuple [.int d, .int e, .int g]) = (decide (a = d) && (decide (b = e) && decide (c = g))) := by
    show ((a == d) && ((b == e) && ((c == g) && true))) = _
    rw [beq_dec, beq_dec, beq_dec, Bool.and_true]
  rw [h]
  simp only [true_and]
end Dl
-- uses prog lines
namespace Dl
open PySem L2
/-! ### lines of rows -/
def trL (x : Tr) : D := .ln x.1 x.2.1 x.2.2
def olD : Option Tr → D
  | none => .non
  | some x => trL x
def otD : Option Tr → D
  | none => .non
  | some x => trD x
def nr (x : Tr) : Tr := nrm x.1 x.2.1 x.2.2
def vl (x : Tr) (n : Int) : Int := lnV x.1 x.2.1 x.2.2 n
def addW (x y : Tr) : Tr := (x.1 + y.1 * x.2.2, x.2.1 + y.2.1 * x.2.2, x.2.2)
def negT (x : Tr) : Tr := (-x.1, x.2.2 - 1 - x.2.1, x.2.2)
def divT (x : Tr) (k : Int) : Tr := (x.1, x.2.1, x.2.2 * k)
def sumL (a b : Option Tr) : Option Tr := match a, b with
  | some x, some y => if (nr y).2.2 = 1 then some (addW x (nr y)) else if (nr x).2.2 = 1 then some (addW y (nr x)) else none
  | _, _ => none
def timesL (a : Option Tr) (k : Int) : Option Tr := if k = 0 then some (0, 0, 1) else match a with
  | none => none
  | some x => if k = 1 then some x else if k = -1 then some (negT x) else if (nr x).2.2 > 1 then none else some ((nr x).1 * k, (nr x).2.1 * k, 1)
def gl (ls : List (Option Tr)) (i : Nat) : Option Tr := (ls[i]?).join
def rowL (r : RowM) (ls : List (Option Tr)) : Option Tr := match r with
  | .given => some (1, 0, 1)
  | .number m => some (0, m, 1)
  | .add i j => sumL (gl ls i) (gl ls j)
  | .sub i j => sumL (gl ls i) ((gl ls j).map negT)
  | .times i k => timesL (gl ls i) k
  | .floor i k => (gl ls i).map fun x => divT x k
  | .quo i k => if k > 1 then none else gl ls i
  | .rest _ k => if k > 1 then none else some (0, 0, 1)
  | .rem _ k => if k > 1 then none else some (0, 0, 1)
/-! what the law reckons -/
def sumN (a b : Option Tr) (neg : Bool) : Option Tr := match a, b with
  | some x, some y => if x.2.2 > 1 ∧ y.2.2 > 1 then none else
    if y.2.2 = 1 then some (nr (addW x (if neg then (-y.1, -y.2.1, 1) else y))) else some (nr (addW (if neg then negT y else y) x))
  | _, _ => none
def timesN (a : Option Tr) (k : Int) : Option Tr := if k = 0 then some (0, 0, 1) else match a with
  | none => none
  | some x => if k = 1 then some x else if x.2.2 = 1 then some (x.1 * k, x.2.1 * k, 1) else if k = -1 then some (nr (negT x)) else none
def rowN (r : RowM) (ls : List (Option Tr)) : Option Tr := match r with
  | .given => some (1, 0, 1)
  | .number m => some (0, m, 1)
  | .add i j => sumN (gl ls i) (gl ls j) false
  | .sub i j => sumN (gl ls i) (gl ls j) true
  | .times i k => timesN (gl ls i) k
  | .floor i k => (gl ls i).map fun x => nr (divT x k)
  | .quo i k => if k > 1 then none else gl ls i
  | .rest _ k => if k > 1 then none else some (0, 0, 1)
  | .rem _ k => if k > 1 then none else some (0, 0, 1)
/-! sizes -/
def TOk (a b : Nat) (x : Tr) : Prop := 1 ≤ x.2.2 ∧ Sm a x.2.2 ∧ Sm b x.1 ∧ Sm b x.2.1
theorem TOk.mono {a b c d : Nat} {x : Tr} (h : TOk a b x) (h1 : a ≤ c) (h2 : b ≤ d) : TOk c d x := ⟨h.1, h.2.1.mono h1, h.2.2.1.mono h2, h.2.2.2.mono h2⟩
theorem nr_pos {x : Tr} (h : 1 ≤ x.2.2) : 1 ≤ (nr x).2.2 := (nrm_of (t := x.1) (p := x.2.1) h).choose_spec.2.2.2.2
theorem nr_ok {a b : Nat} {x : Tr} (h : TOk a b x) : TOk a b (nr x) := by
  obtain ⟨h1, h2, h3, h4⟩ := h
  have g := gcdI_pos (a := x.1) h1
  exact ⟨nr_pos h1, h2.div g, h3.div g, h4.div g⟩
theorem addW_ok {a b : Nat} {x y : Tr} (hx : TOk a b x) (hy : TOk a b y) : TOk a (b + a + 1) (addW x y) := by
  obtain ⟨h1, h2, h3, h4⟩ := hx
  obtain ⟨g1, g2, g3, g4⟩ := hy
  exact ⟨h1, h2, Sm.add (h3.mono (by omega)) (g3.mul h2), Sm.add (h4.mono (by omega)) (g4.mul h2)⟩
theorem pow_le {a b : Nat} (h : a ≤ b) : (2 : Int) ^ a ≤ 2 ^ b := by
  have := Nat.pow_le_pow_right (n := 2) (by decide) h
  have e1 : ((2 ^ a : Nat) : Int) = 2 ^ a := by simp
  have e2 : ((2 ^ b : Nat) : Int) = 2 ^ b := by simp
  omega
theorem negT_ok {a b : Nat} {x : Tr} (hx : TOk a b x) (hab : a ≤ b) : TOk a (b + 1) (negT x) := by
  obtain ⟨h1, h2, h3, h4⟩ := hx
  refine ⟨h1, h2, h3.neg.mono (by omega), ?_⟩
  have u := h2.lt
  have v := h4.lt
  have w := h4.gt
  have e := pow_le hab
  have e3 : (2 : Int) ^ (b + 1) = 2 ^ b * 2 := Int.pow_succ _ _
  refine sm_of ?_ ?_
  · show _ < x.2.2 - 1 - x.2.1; omega
  · show x.2.2 - 1 - x.2.1 < _; omega
theorem divT_ok {a b : Nat} {x : Tr} {k : Int} (hx : TOk a b x) (hk : 1 ≤ k) (sk : Sm 100 k) : TOk (a + 100) b (divT x k) := by
  obtain ⟨h1, h2, h3, h4⟩ := hx
  refine ⟨?_, h2.mul sk, h3, h4⟩
  have := Int.mul_le_mul h1 hk (by omega) (by omega)
  show 1 ≤ x.2.2 * k
  omega
def LsOk (ls : List (Option Tr)) : Prop := ∀ i x, ls[i]? = some (some x) → TOk (100 * (i + 1)) (13000 * (i + 1)) x
theorem gl_ok {ls : List (Option Tr)} (h : LsOk ls) {i : Nat} {x : Tr} (e : gl ls i = some x) : TOk (100 * ls.length) (13000 * ls.length) x := by
  unfold gl at e
  cases q : ls[i]? with
  | none => rw [q] at e; cases e
  | some o =>
    rw [q] at e
    have e : o = some x := e
    subst e
    have hi : i < ls.length := (List.getElem?_eq_some_iff.mp q).1
    exact (h i x q).mono (by omega) (by omega)
theorem one_ok : TOk 1 1 (1, 0, 1) := ⟨by decide, by decide +kernel, by decide +kernel, by decide +kernel⟩
theorem zero_ok : TOk 1 1 (0, 0, 1) := ⟨by decide, by decide +kernel, by decide +kernel, by decide +kernel⟩
theorem sumL_ok {a b : Nat} {u v : Option Tr} {x : Tr} (ha : ∀ x, u = some x → TOk a b x) (hb : ∀ x, v = some x → TOk a b x) (h : sumL u v = some x) : TOk a (b + a + 1) x := by
  unfold sumL at h
  split at h
  · rename_i y z
    split at h
    · cases h; exact addW_ok (ha _ rfl) (nr_ok (hb _ rfl))
    · split at h
      · cases h; exact addW_ok (hb _ rfl) (nr_ok (ha _ rfl))
      · cases h
  · cases h
theorem rowL_ok {r : RowM} {ls : List (Option Tr)} (h : LsOk ls) (h60 : ls.length ≤ 60) (hr : RowOk ls.length r) {x : Tr} (e : rowL r ls = some x) : TOk (100 * (ls.length + 1)) (13000 * (ls.length + 1)) x := by
  cases r with
  | given => cases e; exact one_ok.mono (by omega) (by omega)
  | number m =>
    cases e
    exact ⟨Int.le_refl 1, (show Sm 1 1 by decide).mono (by omega), (show Sm 1 0 by decide).mono (by omega), Sm.mono (show Sm 98 m from hr) (by omega)⟩
  | add i j => exact (sumL_ok (fun x => gl_ok h) (fun x => gl_ok h) e).mono (by omega) (by omega)
  | sub i j =>
    refine (sumL_ok (a := 100 * ls.length) (b := 13000 * ls.length + 1) (fun x q => (gl_ok h q).mono (by omega) (by omega)) (fun x q => ?_) e).mono (by omega) (by omega)
    cases q2 : gl ls j with
    | none => rw [q2] at q; cases q
    | some y =>
      rw [q2] at q
      cases q
      exact negT_ok (gl_ok h q2) (by omega)
  | times i k =>
    have e : timesL (gl ls i) k = some x := e
    unfold timesL at e
    split at e
    · cases e; exact zero_ok.mono (by omega) (by omega)
    · split at e
      · cases e
      · rename_i y q
        have hy := gl_ok h q
        split at e
        · cases e; exact hy.mono (by omega) (by omega)
        · split at e
          · cases e; exact (negT_ok hy (by omega)).mono (by omega) (by omega)
          · split at e
            · cases e
            · cases e
              have hn := nr_ok hy
              exact ⟨Int.le_refl 1, (show Sm 1 1 by decide).mono (by omega), (hn.2.2.1.mul hr.2).mono (by omega), (hn.2.2.2.mul hr.2).mono (by omega)⟩
  | floor i k =>
    have e : (gl ls i).map (fun x => divT x k) = some x := e
    cases q : gl ls i with
    | none => rw [q] at e; cases e
    | some y =>
      rw [q] at e
      cases e
      exact (divT_ok (gl_ok h q) hr.2.1 hr.2.2).mono (by omega) (by omega)
  | quo i k =>
    have e : (if k > 1 then none else gl ls i) = some x := e
    split at e
    · cases e
    · exact (gl_ok h e).mono (by omega) (by omega)
  | rest i k =>
    have e : (if k > 1 then none else some ((0, 0, 1) : Tr)) = some x := e
    split at e
    · cases e
    · cases e; exact zero_ok.mono (by omega) (by omega)
  | rem i k =>
    have e : (if k > 1 then none else some ((0, 0, 1) : Tr)) = some x := e
    split at e
    · cases e
    · cases e; exact zero_ok.mono (by omega) (by omega)
/-! the lines by the first rows -/
def lnM (rs : List RowM) : Nat → List (Option Tr)
  | 0 => []
  | i + 1 => match rs[i]? with
    | some r => lnM rs i ++ [rowL r (lnM rs i)]
    | none => lnM rs i
theorem lnM_step {rs : List RowM} {i : Nat} {r : RowM} (e : rs[i]? = some r) : lnM rs (i + 1) = lnM rs i ++ [rowL r (lnM rs i)] := by
  show (match rs[i]? with | some r => _ | none => _) = _
  rw [e]
theorem lnM_len (rs : List RowM) : ∀ i : Nat, i ≤ rs.length → (lnM rs i).length = i
  | 0, _ => rfl
  | i + 1, h => by
    rw [lnM_step (List.getElem?_eq_getElem (show i < rs.length by omega)), List.length_append, lnM_len rs i (by omega)]
    rfl
theorem getElem_snoc {α : Type} {xs : List α} {x y : α} {i : Nat} (h : (xs ++ [x])[i]? = some y) : xs[i]? = some y ∨ (i = xs.length ∧ y = x) := by
  rcases Nat.lt_trichotomy i xs.length with hlt | rfl | hgt
  · rw [List.getElem?_append_left hlt] at h; exact .inl h
  · rw [List.getElem?_append_right (Nat.le_refl _)] at h
    simp at h
    exact .inr ⟨rfl, h.symm⟩
  · rw [List.getElem?_append_right (by omega)] at h
    have : i - xs.length = (i - xs.length - 1) + 1 := by omega
    rw [this] at h
    simp at h
theorem lnM_ok {rs : List RowM} (hp : ProgOk rs) (h60 : rs.length ≤ 60) : ∀ i : Nat, i ≤ rs.length → LsOk (lnM rs i)
  | 0, _ => fun i v h => by simp [lnM] at h
  | i + 1, h => by
    have ih := lnM_ok hp h60 i (by omega)
    have hl := lnM_len rs i (by omega)
    have e := List.getElem?_eq_getElem (show i < rs.length by omega)
    rw [lnM_step e]
    intro j x hj
    rcases getElem_snoc hj with z | ⟨rfl, z⟩
    · exact ih j x z
    · exact rowL_ok ih (by omega) (by rw [hl]; exact hp i _ e) z.symm
def linesR (rs : List RowM) : List (Option Tr) := lnM rs rs.length
/-! ### the same as the law's normal forms -/
theorem nr_mul {g t p o : Int} (hg : 0 < g) (ho : 1 ≤ o) : nr (g * t, p, g * o) = nr (t, p / g, o) := nrm_mul hg ho
theorem nr_of {x : Tr} (ho : 1 ≤ x.2.2) : ∃ g, 0 < g ∧ x.1 = g * (nr x).1 ∧ x.2.1 / g = (nr x).2.1 ∧ x.2.2 = g * (nr x).2.2 ∧ 1 ≤ (nr x).2.2 := nrm_of ho
theorem nr_addW {x y : Tr} (hx : 1 ≤ x.2.2) : nr (addW x y) = nr (addW (nr x) y) := by
  obtain ⟨g, hg, e1, e2, e3, e4⟩ := nr_of hx
  have a : addW x y = (g * ((nr x).1 + y.1 * (nr x).2.2), x.2.1 + y.2.1 * x.2.2, g * (nr x).2.2) := by
    unfold addW
    refine Prod.ext ?_ (Prod.ext rfl e3)
    show x.1 + y.1 * x.2.2 = _
    rw [e3, Int.mul_add, ← e1, Int.mul_left_comm]
  rw [a, nr_mul hg e4]
  have b : (x.2.1 + y.2.1 * x.2.2) / g = (nr x).2.1 + y.2.1 * (nr x).2.2 := by
    rw [e3, ← e2, Int.mul_left_comm]
    exact Int.add_mul_ediv_left _ _ (by omega)
  rw [b]
  rfl
theorem neg_div (p : Int) {g : Int} (hg : 0 < g) : (g - 1 - p) / g = -(p / g) := by
  obtain ⟨q, r, e, h0, h1, eq, er⟩ := (⟨p / g, p % g, (Int.mul_ediv_add_emod p g).symm, Int.emod_nonneg _ (by omega), Int.emod_lt_of_pos _ hg, rfl, rfl⟩ : ∃ q r, p = g * q + r ∧ 0 ≤ r ∧ r < g ∧ p / g = q ∧ p % g = r)
  rw [eq]
  exact ((Int.ediv_emod_unique hg (r := g - 1 - r)).mpr ⟨by rw [Int.mul_neg]; omega, by omega, by omega⟩).1
theorem nr_negT {x : Tr} (hx : 1 ≤ x.2.2) : nr (negT x) = nr (negT (nr x)) := by
  obtain ⟨g, hg, e1, e2, e3, e4⟩ := nr_of hx
  have a : negT x = (g * -(nr x).1, x.2.2 - 1 - x.2.1, g * (nr x).2.2) := by
    unfold negT
    refine Prod.ext ?_ (Prod.ext rfl e3)
    show -x.1 = _
    rw [Int.mul_neg, ← e1]
  rw [a, nr_mul hg e4]
  have b : (x.2.2 - 1 - x.2.1) / g = (nr x).2.2 - 1 - (nr x).2.1 := by
    have h := neg_div x.2.1 hg
    have e : x.2.2 - 1 - x.2.1 = (g - 1 - x.2.1) + g * ((nr x).2.2 - 1) := by rw [Int.mul_sub, ← e3]; omega
    rw [e, Int.add_mul_ediv_left _ _ (by omega), h, e2]; omega
  rw [b]
  rfl
theorem gcdI_one (a : Int) : gcdI a 1 = 1 := by unfold gcdI; simp
theorem nr_one {a b : Int} : nr (a, b, 1) = (a, b, 1) := by
  show nrm a b 1 = _
  unfold nrm
  rw [gcdI_one]; simp
theorem gcdI_neg (a b : Int) : gcdI (-a) b = gcdI a b := by unfold gcdI; rw [Int.natAbs_neg]
theorem nr_self {x : Tr} (h : gcdI x.1 x.2.2 = 1) : nr x = x := by
  show nrm _ _ _ = _
  unfold nrm
  rw [h]; simp
theorem nr_nr {x : Tr} (h : 1 ≤ x.2.2) : nr (nr x) = nr x := nr_self (nrm_coprime h)
/-- the opposite of a normal form is one -/
theorem nr_negT' {x : Tr} (hx : 1 ≤ x.2.2) : nr (negT x) = negT (nr x) := by
  rw [nr_negT hx]
  refine nr_self ?_
  show gcdI (-(nr x).1) (nr x).2.2 = 1
  rw [gcdI_neg]
  exact nrm_coprime hx
theorem nr_divT {x : Tr} {k : Int} (hx : 1 ≤ x.2.2) (hk : 1 ≤ k) : nr (divT x k) = nr (divT (nr x) k) := by
  obtain ⟨g, hg, e1, e2, e3, e4⟩ := nr_of hx
  have h4 : 1 ≤ (nr x).2.2 * k := by
    have := Int.mul_le_mul e4 hk (by omega) (by omega)
    omega
  have a : divT x k = (g * (nr x).1, x.2.1, g * ((nr x).2.2 * k)) := by
    unfold divT
    refine Prod.ext e1 (Prod.ext rfl ?_)
    show x.2.2 * k = _
    rw [← Int.mul_assoc, ← e3]
  rw [a, nr_mul hg h4, e2]
  rfl
theorem sum_same {a b : Option Tr} (ha : ∀ x, a = some x → 1 ≤ x.2.2) (hb : ∀ x, b = some x → 1 ≤ x.2.2) : (sumL a b).map nr = sumN (a.map nr) (b.map nr) false := by
  cases a with
  | none => rfl
  | some x =>
    cases b with
    | none => rfl
    | some y =>
      have h1 := ha x rfl
      have h2 := hb y rfl
      have n1 := nr_pos h1
      have n2 := nr_pos h2
      show Option.map nr (if (nr y).2.2 = 1 then some (addW x (nr y)) else if (nr x).2.2 = 1 then some (addW y (nr x)) else none) = (if (nr x).2.2 > 1 ∧ (nr y).2.2 > 1 then none else if (nr y).2.2 = 1 then some (nr (addW (nr x) (nr y))) else some (nr (addW (nr y) (nr x))))
      by_cases c : (nr y).2.2 = 1
      · rw [if_pos c, if_neg (by omega), if_pos c]
        show some (nr (addW x (nr y))) = _
        rw [nr_addW h1]
      · rw [if_neg c]
        by_cases d : (nr x).2.2 = 1
        · rw [if_pos d, if_neg (by omega), if_neg c]
          show some (nr (addW y (nr x))) = _
          rw [nr_addW h2]
        · rw [if_neg d, if_pos (by omega)]; rfl
theorem sub_same {a b : Option Tr} (ha : ∀ x, a = some x → 1 ≤ x.2.2) (hb : ∀ x, b = some x → 1 ≤ x.2.2) : (sumL a (b.map negT)).map nr = sumN (a.map nr) (b.map nr) true := by
  rw [sum_same ha]
  · cases a with
    | none => rfl
    | some x =>
      cases b with
      | none => rfl
      | some y =>
        have h2 := hb y rfl
        have n2 := nr_pos h2
        show sumN (some (nr x)) (some (nr (negT y))) false = sumN (some (nr x)) (some (nr y)) true
        rw [nr_negT' h2]
        show (if (nr x).2.2 > 1 ∧ (nr y).2.2 > 1 then none else if (nr y).2.2 = 1 then some (nr (addW (nr x) (negT (nr y)))) else some (nr (addW (negT (nr y)) (nr x)))) = (if (nr x).2.2 > 1 ∧ (nr y).2.2 > 1 then none else if (nr y).2.2 = 1 then some (nr (addW (nr x) (-(nr y).1, -(nr y).2.1, 1))) else some (nr (addW (negT (nr y)) (nr x))))
        by_cases c : (nr y).2.2 = 1
        · have e : negT (nr y) = (-(nr y).1, -(nr y).2.1, 1) := by
            unfold negT
            rw [c]
            refine Prod.ext rfl (Prod.ext ?_ rfl)
            show 1 - 1 - (nr y).2.1 = -(nr y).2.1
            omega
          rw [e]
        · rw [if_neg c]
          by_cases d : (nr x).2.2 > 1 ∧ (nr y).2.2 > 1
          · rw [if_pos d, if_pos d]
          · rw [if_neg d, if_neg d, if_neg c]
  · intro z q
    cases b with
    | none => cases q
    | some y => cases q; exact hb y rfl
theorem times_same {a : Option Tr} {k : Int} (ha : ∀ x, a = some x → 1 ≤ x.2.2) : (timesL a k).map nr = timesN (a.map nr) k := by
  unfold timesL timesN
  split
  · show some (nr (0, 0, 1)) = _; rw [nr_one]
  · cases a with
    | none => rfl
    | some x =>
      have h1 := ha x rfl
      have n1 := nr_pos h1
      show Option.map nr (if k = 1 then some x else if k = -1 then some (negT x) else if (nr x).2.2 > 1 then none else some ((nr x).1 * k, (nr x).2.1 * k, 1)) = (if k = 1 then some (nr x) else if (nr x).2.2 = 1 then some ((nr x).1 * k, (nr x).2.1 * k, 1) else if k = -1 then some (nr (negT (nr x))) else none)
      by_cases c : k = 1
      · rw [if_pos c, if_pos c]; rfl
      · rw [if_neg c, if_neg c]
        by_cases d : k = -1
        · rw [if_pos d]
          show some (nr (negT x)) = _
          rw [nr_negT h1]
          by_cases w : (nr x).2.2 = 1
          · rw [if_pos w, d]
            have e : negT (nr x) = ((nr x).1 * -1, (nr x).2.1 * -1, 1) := by
              unfold negT
              rw [w]
              refine Prod.ext (by show -(nr x).1 = (nr x).1 * -1; omega) (Prod.ext ?_ rfl)
              show 1 - 1 - (nr x).2.1 = (nr x).2.1 * -1
              omega
            rw [e, nr_one]
          · rw [if_neg w, if_pos d]
        · rw [if_neg d]
          by_cases w : (nr x).2.2 = 1
          · rw [if_neg (by omega), if_pos w]
            show some (nr (_, _, 1)) = _
            rw [nr_one]
          · rw [if_pos (by omega), if_neg w, if_neg d]; rfl
theorem gl_map (ls : List (Option Tr)) (i : Nat) : gl (ls.map (Option.map nr)) i = (gl ls i).map nr := by
  unfold gl
  rw [List.getElem?_map]
  cases ls[i]? with
  | none => rfl
  | some o => rfl
theorem row_same {r : RowM} {ls : List (Option Tr)} (h : LsOk ls) (hr : RowOk ls.length r) : rowN r (ls.map (Option.map nr)) = (rowL r ls).map nr := by
  have ho : ∀ i x, gl ls i = some x → 1 ≤ x.2.2 := fun i x e => (gl_ok h e).1
  cases r with
  | given => show _ = some (nr _); rw [nr_one]; rfl
  | number m => show _ = some (nr _); rw [nr_one]; rfl
  | add i j => show sumN _ _ _ = _; rw [gl_map, gl_map]; exact (sum_same (ho i) (ho j)).symm
  | sub i j => show sumN _ _ _ = _; rw [gl_map, gl_map]; exact (sub_same (ho i) (ho j)).symm
  | times i k => show timesN _ _ = _; rw [gl_map]; exact (times_same (ho i)).symm
  | floor i k =>
    show Option.map _ (gl _ i) = Option.map nr (Option.map _ (gl ls i))
    rw [gl_map]
    cases q : gl ls i with
    | none => rfl
    | some x =>
      show some (nr (divT (nr x) k)) = some (nr (divT x k))
      rw [← nr_divT (ho i x q) hr.2.1]
  | quo i k =>
    show (if k > 1 then none else gl _ i) = Option.map nr (if k > 1 then none else gl ls i)
    rw [gl_map]
    split <;> rfl
  | rest i k =>
    show (if k > 1 then none else some ((0, 0, 1) : Tr)) = Option.map nr (if k > 1 then none else some (0, 0, 1))
    split
    · rfl
    · show _ = some (nr _); rw [nr_one]
  | rem i k =>
    show (if k > 1 then none else some ((0, 0, 1) : Tr)) = Option.map nr (if k > 1 then none else some (0, 0, 1))
    split
    · rfl
    · show _ = some (nr _); rw [nr_one]
/-! ### the values -/
theorem vl_nr {x : Tr} {n : Int} (h : 1 ≤ x.2.2) : vl (nr x) n = vl x n := lnV_nrm h
theorem vl_addW {x y : Tr} {n : Int} (h : 1 ≤ x.2.2) : vl (addW x y) n = vl x n + (y.1 * n + y.2.1) := by
  show ((x.1 + y.1 * x.2.2) * n + (x.2.1 + y.2.1 * x.2.2)) / x.2.2 = (x.1 * n + x.2.1) / x.2.2 + _
  have e : (x.1 + y.1 * x.2.2) * n + (x.2.1 + y.2.1 * x.2.2) = (x.1 * n + x.2.1) + x.2.2 * (y.1 * n + y.2.1) := by
    rw [Int.add_mul, Int.mul_add, Int.mul_assoc, Int.mul_left_comm x.2.2, Int.mul_comm x.2.2 n, Int.mul_comm x.2.2 y.2.1]; omega
  rw [e, Int.add_mul_ediv_left _ _ (by omega)]
theorem vl_one {x : Tr} {n : Int} (h : x.2.2 = 1) : vl x n = x.1 * n + x.2.1 := by
  show (x.1 * n + x.2.1) / x.2.2 = _
  rw [h, Int.ediv_one]
theorem vl_negT {x : Tr} {n : Int} (h : 1 ≤ x.2.2) : vl (negT x) n = -vl x n := by
  show (-x.1 * n + (x.2.2 - 1 - x.2.1)) / x.2.2 = -((x.1 * n + x.2.1) / x.2.2)
  rw [← neg_div _ (show 0 < x.2.2 by omega), Int.neg_mul]
  congr 1; omega
theorem vl_divT {x : Tr} {n k : Int} (h : 1 ≤ x.2.2) (hk : 1 ≤ k) : vl (divT x k) n = vl x n / k := by
  show (x.1 * n + x.2.1) / (x.2.2 * k) = (x.1 * n + x.2.1) / x.2.2 / k
  rw [Int.ediv_ediv_of_nonneg (by omega)]
theorem sum_val {a b : Option Tr} {z : Tr} {u v n : Int} (ha : ∀ x, a = some x → 1 ≤ x.2.2 ∧ vl x n = u) (hb : ∀ x, b = some x → 1 ≤ x.2.2 ∧ vl x n = v) (h : sumL a b = some z) : vl z n = u + v := by
  unfold sumL at h
  split at h
  · rename_i x y
    obtain ⟨x1, x2⟩ := ha x rfl
    obtain ⟨y1, y2⟩ := hb y rfl
    split at h
    · rename_i c
      cases h
      rw [vl_addW x1, ← vl_one c, vl_nr y1, x2, y2]
    · split at h
      · rename_i c
        cases h
        rw [vl_addW y1, ← vl_one c, vl_nr x1, x2, y2, Int.add_comm]
      · cases h
  · cases h
def LsV (ls : List (Option Tr)) (vs : List Int) (n : Int) : Prop := ls.length = vs.length ∧ ∀ (i : Nat) (x : Tr) (v : Int), ls[i]? = some (some x) → vs[i]? = some v → vl x n = v
theorem gl_val {ls : List (Option Tr)} {vs : List Int} {n : Int} (h : LsV ls vs n) (ho : LsOk ls) {i : Nat} {x : Tr} (e : gl ls i = some x) : 1 ≤ x.2.2 ∧ vl x n = vs.getD i 0 := by
  refine ⟨(gl_ok ho e).1, ?_⟩
  unfold gl at e
  cases q : ls[i]? with
  | none => rw [q] at e; cases e
  | some o =>
    rw [q] at e
    have e : o = some x := e
    subst e
    have hi : i < vs.length := by rw [← h.1]; exact (List.getElem?_eq_some_iff.mp q).1
    rw [h.2 i x vs[i] q (List.getElem?_eq_getElem hi)]
    simp [hi]
theorem quo_one (v : Int) : quoM v 1 = v := by
  unfold quoM
  split
  · rw [Int.ediv_one]; omega
  · rw [Int.ediv_one]
theorem row_val {r : RowM} {ls : List (Option Tr)} {vs : List Int} {n : Int} (h : LsV ls vs n) (ho : LsOk ls) (hr : RowOk ls.length r) {x : Tr} (e : rowL r ls = some x) : vl x n = rowV r vs n := by
  cases r with
  | given => cases e; show (1 * n + 0) / 1 = n; rw [Int.ediv_one]; omega
  | number m => cases e; show (0 * n + m) / 1 = m; rw [Int.ediv_one]; omega
  | add i j => exact sum_val (fun x q => gl_val h ho q) (fun x q => gl_val h ho q) e
  | sub i j =>
    have := sum_val (u := vs.getD i 0) (v := -vs.getD j 0) (n := n) (fun x q => gl_val h ho q) (fun x q => ?_) e
    · rw [this]; exact Int.sub_eq_add_neg.symm
    · cases q2 : gl ls j with
      | none => rw [q2] at q; cases q
      | some y =>
        rw [q2] at q
        cases q
        obtain ⟨y1, y2⟩ := gl_val h ho q2
        exact ⟨y1, by rw [vl_negT y1, y2]⟩
  | times i k =>
    have e : timesL (gl ls i) k = some x := e
    show _ = vs.getD i 0 * k
    unfold timesL at e
    split at e
    · rename_i c
      cases e; rw [c, Int.mul_zero]; show (0 * n + 0) / 1 = 0; rw [Int.ediv_one]; omega
    · split at e
      · cases e
      · rename_i y q
        obtain ⟨y1, y2⟩ := gl_val h ho q
        split at e
        · rename_i c; cases e; rw [c, y2, Int.mul_one]
        · split at e
          · rename_i c; cases e; rw [c, vl_negT y1, y2]; omega
          · split at e
            · cases e
            · rename_i c
              cases e
              have := nr_pos y1
              have w : (nr y).2.2 = 1 := by omega
              rw [← y2, ← vl_nr y1, vl_one w]
              show ((nr y).1 * k * n + (nr y).2.1 * k) / 1 = _
              rw [Int.ediv_one, Int.add_mul, Int.mul_assoc, Int.mul_comm k n, Int.mul_assoc]
  | floor i k =>
    have e : (gl ls i).map (fun x => divT x k) = some x := e
    cases q : gl ls i with
    | none => rw [q] at e; cases e
    | some y =>
      rw [q] at e
      cases e
      obtain ⟨y1, y2⟩ := gl_val h ho q
      rw [vl_divT y1 hr.2.1, y2]; rfl
  | quo i k =>
    have e : (if k > 1 then none else gl ls i) = some x := e
    split at e
    · cases e
    · have hk : k = 1 := by have := hr.2.1; omega
      rw [(gl_val h ho e).2]
      show _ = quoM _ k
      rw [hk, quo_one]
  | rest i k =>
    have e : (if k > 1 then none else some ((0, 0, 1) : Tr)) = some x := e
    split at e
    · cases e
    · have hk : k = 1 := by have := hr.2.1; omega
      cases e
      show (0 * n + 0) / 1 = vs.getD i 0 % k
      rw [hk]; omega
  | rem i k =>
    have e : (if k > 1 then none else some ((0, 0, 1) : Tr)) = some x := e
    split at e
    · cases e
    · have hk : k = 1 := by have := hr.2.1; omega
      cases e
      show (0 * n + 0) / 1 = vs.getD i 0 - k * quoM (vs.getD i 0) k
      rw [hk, quo_one]; omega
theorem lnM_val {rs : List RowM} {n : Int} (hp : ProgOk rs) (h60 : rs.length ≤ 60) : ∀ i : Nat, i ≤ rs.length → LsV (lnM rs i) (runM rs n i) n
  | 0, _ => ⟨rfl, fun i x v h => by simp [lnM] at h⟩
  | i + 1, h => by
    have ih := lnM_val (n := n) hp h60 i (by omega)
    have ho := lnM_ok hp h60 i (by omega)
    have l1 := lnM_len rs i (by omega)
    have l2 := runM_len rs n i (by omega)
    have e := List.getElem?_eq_getElem (show i < rs.length by omega)
    have e2 : runM rs n (i + 1) = runM rs n i ++ [rowV rs[i] (runM rs n i) n] := by
      show (match rs[i]? with | some r => _ | none => _) = _
      rw [e]
    rw [lnM_step e, e2]
    refine ⟨by simp [l1, l2], fun j x v hx hv => ?_⟩
    rcases getElem_snoc hx with z | ⟨rfl, z⟩
    · rcases getElem_snoc hv with y | ⟨rfl, y⟩
      · exact ih.2 j x v z y
      · have := (List.getElem?_eq_some_iff.mp z).1; omega
    · rcases getElem_snoc hv with y | ⟨_, y⟩
      · have := (List.getElem?_eq_some_iff.mp y).1; omega
      · rw [y]
        exact row_val ih ho (by rw [l1]; exact hp i _ e) z.symm
def OOk (a b : Nat) (x : Option Tr) : Prop := ∀ y, x = some y → TOk a b y
theorem LsOk.nr {ls : List (Option Tr)} (h : LsOk ls) : LsOk (ls.map (Option.map nr)) := by
  intro i x e
  rw [List.getElem?_map] at e
  cases q : ls[i]? with
  | none => rw [q] at e; cases e
  | some o =>
    rw [q] at e
    cases o with
    | none => cases e
    | some y => cases e; exact nr_ok (h i y q)
theorem ls_get {ls : List (Option Tr)} (h : LsOk ls) (hl : ls.length ≤ 60) {k : Nat} (hk : k < ls.length) : ∃ o, ls[k]? = some o ∧ OOk 6200 900000 o ∧ atI (ls.map olD) (k : Int) = some (olD o) ∧ atI ((ls.map (Option.map nr)).map otD) (k : Int) = some (otD (o.map nr)) := by
  refine ⟨ls[k], List.getElem?_eq_getElem hk, fun y e => ?_, ?_, ?_⟩
  · exact (h k y (by rw [List.getElem?_eq_getElem hk, e])).mono (by omega) (by omega)
  · exact at_nat (by rw [List.getElem?_map, List.getElem?_eq_getElem hk]; rfl)
  · exact at_nat (by rw [List.getElem?_map, List.getElem?_map, List.getElem?_eq_getElem hk]; rfl)
end Dl
-- uses rlines
namespace Dl
open PySem L2
/-! ### drawn numbers of lines and ranges -/
/-- at most 10 ** 29 either way -/
def B29 (x : Int) : Prop := -10 ^ 29 ≤ x ∧ x ≤ 10 ^ 29
theorem B29.sm {x : Int} (h : B29 x) : Sm 97 x := by
  have e : (10 : Int) ^ 29 < 2 ^ 97 := by decide +kernel
  exact sm_of (by have := h.1; omega) (by have := h.2; omega)
structure PtOk (x : Tr) : Prop where
  t : B29 x.1
  p : B29 x.2.1
  o : B29 x.2.2
  o1 : 1 ≤ x.2.2
/-- numbers of a line that is put beside a drawn one -/
structure NrOk (x : Tr) : Prop where
  o1 : 1 ≤ x.2.2
  t : Sm 300 x.1
  p : Sm 320 x.2.1
  o : Sm 200 x.2.2
theorem PtOk.nr {x : Tr} (h : PtOk x) : NrOk x := ⟨h.o1, h.t.sm.mono (by decide), h.p.sm.mono (by decide), h.o.sm.mono (by decide)⟩
theorem s30 {n : Int} (h1 : -10 ^ 30 ≤ n) (h2 : n ≤ 10 ^ 30) : Sm 100 n := by
  have e : (10 : Int) ^ 30 < 2 ^ 100 := by decide +kernel
  exact sm_of (by omega) (by omega)
theorem B29.le {x : Int} (h : B29 x) : -10 ^ 29 ≤ x ∧ x ≤ 10 ^ 29 := h
end Dl
namespace Dl
open PySem L2
/-! ### texts: lengths and code points -/
theorem okS_app (x y : Str) : PyData.strOk (x ++ y) = (PyData.strOk x && PyData.strOk y) := by
  unfold PyData.strOk
  rw [Str.cps_append, Array.all_append]
theorem okS_of (s : String) : PyData.strOk (Str.ofString s) = true := by
  unfold PyData.strOk
  rw [Str.ofString_eq_toList]
  simp only [List.all_toArray, List.all_map, List.all_eq_true]
  intro c _
  have h := c.valid
  simp only [Function.comp, decide_eq_true_eq]
  show c.val.toNat < 1114112
  rcases h with h | h <;> omega
theorem join3 (x a b c : Str) : Txt.join x [a, b, c] = a ++ x ++ b ++ x ++ c := Str.ext' rfl
theorem len_int {i : Int} {n : Nat} (h : Sm n i) (h0 : 0 < n) : (Str.ofString (toString i)).length ≤ n + 1 := by
  rw [ofString_length]
  exact int_text_length_le h0 (h.log h0)
theorem fit3k {x : Str} (h : x.length ≤ 30000) : x.length ≤ sizeLine := by rw [sizeLine_eq]; omega
/-- what may be shown, and is a good text -/
def ShS (d : D) : Prop := ∃ p, ShowOk d p ∧ PyData.strOk p.shown = true
def okSh (d : D) : Bool := match toR d with
  | some p => p.showable && (decide (p.shown.length ≤ 1000) && (decide (p.depth ≤ 50) && ((!p.hasDict || noLst d) && PyData.strOk p.shown)))
  | none => false
theorem okSh_ok {d : D} (h : okSh d = true) : ShS d := by
  unfold okSh at h
  split at h
  · rename_i p e
    simp only [Bool.and_eq_true, Bool.or_eq_true, Bool.not_eq_true', decide_eq_true_eq] at h
    obtain ⟨h1, h2, h3, h4, h5⟩ := h
    exact ⟨p, ⟨e, h1, fit3k (by omega), by omega, h4⟩, h5⟩
  · cases h
theorem rep_ne {d : D} {M : Mem} {R : DR} (h : ShS d) (k : R (.bl false) M) : oReprD [d] M fun x M1 => oReprD [d] M1 fun y M2 => oNe x y M2 R := by
  obtain ⟨p, sh, st⟩ := h
  exact ⟨p, sh, p, sh, eqG_self (d := .str p.shown) (by show PyData.strOk p.shown = true; exact st) k⟩
def Gd (d : D) : Prop := ∃ p, toR d = some p ∧ p.showable = true ∧ p.shown.length ≤ 1000 ∧ p.depth ≤ 50 ∧ p.hasDict = false ∧ PyData.strOk p.shown = true
theorem gd_int {i : Int} (h : Sm 900 i) : Gd (.int i) := by
  refine ⟨.int i, rfl, ?_, ?_, Nat.zero_le _, rfl, okS_of _⟩
  · show decide (i.natAbs.log2 < 1920) = true
    exact decide_eq_true (Nat.lt_of_lt_of_le (h.log (by decide)) (by decide))
  · have := len_int h (by decide)
    show (Str.ofString (toString i)).length ≤ 1000
    omega
theorem gd_of {d : D} {p : PyData} (e : toR d = some p) (h : (p.showable && (decide (p.shown.length ≤ 1000) && (decide (p.depth ≤ 50) && (!p.hasDict && PyData.strOk p.shown)))) = true) : Gd d := by
  simp only [Bool.and_eq_true, Bool.not_eq_true', decide_eq_true_eq] at h
  obtain ⟨h1, h2, h3, h4, h5⟩ := h
  exact ⟨p, e, h1, h2, h3, h4, h5⟩
theorem gd3 {a b c : D} (ha : Gd a) (hb : Gd b) (hc : Gd c) : ShS (.tup [a, b, c]) := by
  obtain ⟨p, p1, p2, p3, p4, p5, p6⟩ := ha
  obtain ⟨q, q1, q2, q3, q4, q5, q6⟩ := hb
  obtain ⟨r, r1, r2, r3, r4, r5, r6⟩ := hc
  have e : (PyData.tuple [p, q, r]).shown = (Str.ofString "(" ++ (p.shown ++ Str.ofString ", " ++ (q.shown ++ Str.ofString ", " ++ r.shown))) ++ Str.ofString ")" := rfl
  have a1 : (Str.ofString "(").length = 1 := by decide +kernel
  have a2 : (Str.ofString ", ").length = 2 := by decide +kernel
  have a3 : (Str.ofString ")").length = 1 := by decide +kernel
  refine ⟨.tuple [p, q, r], ⟨?_, ?_, ?_, ?_, .inl ?_⟩, ?_⟩
  · simp [toR, toRL, p1, q1, r1]
  · simp [PyData.showable, PyData.showableAll, p2, q2, r2]
  · rw [e]
    refine fit3k ?_
    simp only [Str.length_append, a1, a2, a3]
    omega
  · simp only [PyData.depth, PyData.depthAll]
    omega
  · simp [PyData.hasDict, PyData.hasDictAll, p5, q5, r5]
  · rw [e]
    simp only [okS_app, okS_of, p6, q6, r6, Bool.and_true]
def bad5 : List D := [.non, .bl true, .bl false, .str "1", .tup [.int 1], .lst [.int 1], .dct [] []]
def bad6 : List D := [.non, .bl true, .bl false, .str "1", .tup [.int 1], .lst [.int 1], .str ""]
theorem bad_all : (bad5 ++ bad6).all (fun d => !isIntD d && (tyL d && (pureD d && okSh d))) = true := by decide +kernel
theorem bad_of {d : D} (h : (bad5 ++ bad6).all (fun d => !isIntD d && (tyL d && (pureD d && okSh d))) = true) (m : d ∈ bad5 ++ bad6) : isIntD d = false ∧ tyL d = true ∧ pureD d = true ∧ ShS d := by
  have := List.all_eq_true.mp h d m
  simp only [Bool.and_eq_true, Bool.not_eq_true'] at this
  exact ⟨this.1, this.2.1, this.2.2.1, okSh_ok this.2.2.2⟩
theorem bad_ok5 : ∀ d ∈ bad5, isIntD d = false ∧ tyL d = true ∧ pureD d = true ∧ ShS d := fun d m => bad_of bad_all (List.mem_append_left _ m)
theorem bad_ok6 : ∀ d ∈ bad6, isIntD d = false ∧ tyL d = true ∧ pureD d = true ∧ ShS d := fun d m => bad_of bad_all (List.mem_append_right _ m)
end Dl
-- uses shw
namespace Dl
open PySem L2
/-! ### what shows where lines lie within -/
/-- how lines show -/
structure LnSh (S : DSp) (txt : Int × Int × Int → Str) : Prop where
  sh : ∀ (x : Int × Int × Int) (M : Mem), Sm 900 x.1 → Sm 900 x.2.1 → Sm 900 x.2.2 → S [.ln x.1 x.2.1 x.2.2] M (fun e M' => e = .str (txt x) ∧ M' = M) noX
  len : ∀ x : Int × Int × Int, Sm 900 x.1 → Sm 900 x.2.1 → Sm 900 x.2.2 → (txt x).length ≤ 2800
  ok : ∀ x, PyData.strOk (txt x) = true
structure GX (txt : Int × Int × Int → Str) (d : D) (n : Nat) : Prop where
  ok : okX d = true
  ln : ∀ x ∈ lnsX d, Sm 900 x.1 ∧ Sm 900 x.2.1 ∧ Sm 900 x.2.2
  len : (shX txt d).length ≤ n
  st : PyData.strOk (shX txt d) = true
section
variable {S : DSp} {txt : Int × Int × Int → Str}
theorem gx_int {i : Int} (h : Sm 900 i) : GX txt (.int i) 901 :=
  ⟨by show decide (i.natAbs.log2 < 1920) = true
      exact decide_eq_true (Nat.lt_of_lt_of_le (h.log (by decide)) (by decide)), fun x hx => (by simp [lnsX] at hx), len_int h (by decide), okS_of _⟩
theorem gx_ln (L : LnSh S txt) {t p o : Int} (h1 : Sm 900 t) (h2 : Sm 900 p) (h3 : Sm 900 o) : GX txt (.ln t p o) 2800 :=
  ⟨rfl, fun x hx => by
    simp only [lnsX, List.mem_singleton] at hx
    subst hx
    exact ⟨h1, h2, h3⟩, by simp only [shX]; exact L.len (t, p, o) h1 h2 h3, by simp only [shX]; exact L.ok _⟩
/-- data without lines, by reckoning -/
theorem gx_of {d : D} {n : Nat} (h : (okX d && ((lnsX d).isEmpty && (decide ((shX txt d).length ≤ n) && PyData.strOk (shX txt d)))) = true) : GX txt d n := by
  simp only [Bool.and_eq_true, decide_eq_true_eq, List.isEmpty_iff] at h
  exact ⟨h.1, fun x hx => (by rw [h.2.1] at hx; cases hx), h.2.2.1, h.2.2.2⟩
theorem GX.le {d : D} {n m : Nat} (h : GX txt d n) (k : n ≤ m) : GX txt d m := ⟨h.ok, h.ln, Nat.le_trans h.len k, h.st⟩
theorem gx_tup2 {a b : D} {n m : Nat} (ha : GX txt a n) (hb : GX txt b m) : GX txt (.tup [a, b]) (n + m + 4) := by
  have e : shX txt (.tup [a, b]) = (Str.ofString "(" ++ (shX txt a ++ Str.ofString ", " ++ shX txt b)) ++ Str.ofString ")" := by
    simp only [shX, shXL]
    rfl
  have a1 : (Str.ofString "(").length = 1 := by decide +kernel
  have a2 : (Str.ofString ", ").length = 2 := by decide +kernel
  have a3 : (Str.ofString ")").length = 1 := by decide +kernel
  have l1 := ha.len
  have l2 := hb.len
  refine ⟨by simp [okX, okXL, ha.ok, hb.ok], fun x hx => ?_, ?_, ?_⟩
  · simp only [lnsX, lnsXL, List.append_nil, List.mem_append] at hx
    exact hx.elim (ha.ln x) (hb.ln x)
  · rw [e]
    simp only [Str.length_append, a1, a2, a3]
    omega
  · rw [e]
    simp only [okS_app, okS_of, ha.st, hb.st, Bool.and_true]
theorem gx_tup3 {a b c : D} {n m k : Nat} (ha : GX txt a n) (hb : GX txt b m) (hc : GX txt c k) : GX txt (.tup [a, b, c]) (n + m + k + 6) := by
  have e : shX txt (.tup [a, b, c]) = (Str.ofString "(" ++ (shX txt a ++ Str.ofString ", " ++ (shX txt b ++ Str.ofString ", " ++ shX txt c))) ++ Str.ofString ")" := by
    simp only [shX, shXL]
    rfl
  have a1 : (Str.ofString "(").length = 1 := by decide +kernel
  have a2 : (Str.ofString ", ").length = 2 := by decide +kernel
  have a3 : (Str.ofString ")").length = 1 := by decide +kernel
  have l1 := ha.len
  have l2 := hb.len
  have l3 := hc.len
  refine ⟨by simp [okX, okXL, ha.ok, hb.ok, hc.ok], fun x hx => ?_, ?_, ?_⟩
  · simp only [lnsX, lnsXL, List.append_nil, List.mem_append] at hx
    exact hx.elim (ha.ln x) (fun hx => hx.elim (hb.ln x) (hc.ln x))
  · rw [e]
    simp only [Str.length_append, a1, a2, a3]
    omega
  · rw [e]
    simp only [okS_app, okS_of, ha.st, hb.st, hc.st, Bool.and_true]
theorem gx_tup4 {a b c e : D} {n m k j : Nat} (ha : GX txt a n) (hb : GX txt b m) (hc : GX txt c k) (he : GX txt e j) : GX txt (.tup [a, b, c, e]) (n + m + k + j + 8) := by
  have q : shX txt (.tup [a, b, c, e]) = (Str.ofString "(" ++ (shX txt a ++ Str.ofString ", " ++ (shX txt b ++ Str.ofString ", " ++ (shX txt c ++ Str.ofString ", " ++ shX txt e)))) ++ Str.ofString ")" := by
    simp only [shX, shXL]
    rfl
  have a1 : (Str.ofString "(").length = 1 := by decide +kernel
  have a2 : (Str.ofString ", ").length = 2 := by decide +kernel
  have a3 : (Str.ofString ")").length = 1 := by decide +kernel
  have l1 := ha.len
  have l2 := hb.len
  have l3 := hc.len
  have l4 := he.len
  refine ⟨by simp [okX, okXL, ha.ok, hb.ok, hc.ok, he.ok], fun x hx => ?_, ?_, ?_⟩
  · simp only [lnsX, lnsXL, List.append_nil, List.mem_append] at hx
    exact hx.elim (ha.ln x) (fun hx => hx.elim (hb.ln x) (fun hx => hx.elim (hc.ln x) (he.ln x)))
  · rw [q]
    simp only [Str.length_append, a1, a2, a3]
    omega
  · rw [q]
    simp only [okS_app, okS_of, ha.st, hb.st, hc.st, he.st, Bool.and_true]
theorem gx_lst1 {a : D} {n : Nat} (ha : GX txt a n) : GX txt (.lst [a]) (n + 2) := by
  have e : shX txt (.lst [a]) = (Str.ofString "[" ++ shX txt a) ++ Str.ofString "]" := by
    simp only [shX, shXL]
    rfl
  have a1 : (Str.ofString "[").length = 1 := by decide +kernel
  have a3 : (Str.ofString "]").length = 1 := by decide +kernel
  have l1 := ha.len
  refine ⟨by simp [okX, okXL, ha.ok], fun x hx => ?_, ?_, ?_⟩
  · simp only [lnsX, lnsXL, List.append_nil] at hx
    exact ha.ln x hx
  · rw [e]
    simp only [Str.length_append, a1, a3]
    omega
  · rw [e]
    simp only [okS_app, okS_of, ha.st, Bool.and_true]
/-- it shows, with a good text -/
def ShU (S : DSp) (d : D) : Prop := ∃ t, PyData.strOk t = true ∧ ((∃ p, ShowOk d p ∧ t = p.shown) ∨ ∀ M, ShowX S M d t)
theorem GX.shu (L : LnSh S txt) {d : D} {n : Nat} (h : GX txt d n) (hn : n ≤ 30000) (hc : conX d = true) (hd : depX d ≤ 6) : ShU S d :=
  ⟨shX txt d, h.st, .inr fun M => ⟨hc, h.ok, hd, fit3k (Nat.le_trans h.len hn), txt, rfl, fun x hx => let ⟨a, b, c⟩ := h.ln x hx; L.sh x M a b c⟩⟩
theorem ShS.shu {d : D} (h : ShS d) : ShU S d := let ⟨p, a, b⟩ := h; ⟨p.shown, b, .inl ⟨p, a, rfl⟩⟩
theorem shu_x {d : D} {M : Mem} {R : DR} {t : Str} (h : (∃ p, ShowOk d p ∧ t = p.shown) ∨ ∀ M, ShowX S M d t) (k : R (.str t) M) : oReprX S [d] M R := by
  rcases h with ⟨p, sh, rfl⟩ | h
  · exact .inl ⟨p, sh, k⟩
  · exact .inr ⟨t, h M, k⟩
theorem shu_eq {f : Bool → Bool} {d : D} {M : Mem} {R : DR} (h : ShU S d) (k : R (.bl (f true)) M) : oReprX S [d] M fun x M1 => oReprX S [d] M1 fun y M2 => oEqG f x y M2 R := by
  obtain ⟨t, st, sh⟩ := h
  exact shu_x sh (shu_x sh (eqG_self (d := .str t) (by show PyData.strOk t = true; exact st) k))
end
end Dl
-- uses rlines shx
namespace Dl
open PySem L2
/-! ### what the doors of deciding refuse -/
def RgOk (a b : D) : Prop := ∃ i j : Int, a = .int i ∧ b = .int j ∧ i < j
theorem ln_ofT {d : D} (h : isLn d = true) : ∃ x : Tr, d = trL x := by
  cases d with
  | ln t p o => exact ⟨(t, p, o), rfl⟩
  | _ => cases h
theorem pure2 {a b : D} (h : pureD a = true) (k : pureD b = true) : pureD (.tup [a, b]) = true := by simp [pureD, pureL, h, k]
/-- refused by the door for a line -/
structure NoLn (x : D) : Prop where
  ty : tyL x = true
  ln : isLn x = false
  pu : pureD x = true
/-- refused by the door for a range -/
structure NoRg (l h : D) : Prop where
  tl : tyL l = true
  th : tyL h = true
  rg : ¬ RgOk l h
  pl : pureD l = true
  ph : pureD h = true
theorem NoRg.pu {l h : D} (n : NoRg l h) : pureD (.tup [l, h]) = true := pure2 n.pl n.ph
/-- a line and a range -/
inductive Door : D → D → D → Str → D → Prop
  | ln {x l h : D} : NoLn x → Door x l h "InvalidLine" x
  | rg {x : Tr} {l h : D} : NoRg l h → Door (trL x) l h "InvalidRange" (.tup [l, h])
theorem Door.pu {x l h o : D} {c : Str} (d : Door x l h c o) : pureD o = true := by
  cases d with
  | ln n => exact n.pu
  | rg n => exact n.pu
/-- two lines and a range -/
inductive Door2 : D → D → D → D → Str → D → Prop
  | a {x y l h : D} : NoLn x → Door2 x y l h "InvalidLine" x
  | b {x : Tr} {y l h : D} : NoLn y → Door2 (trL x) y l h "InvalidLine" y
  | rg {x y : Tr} {l h : D} : NoRg l h → Door2 (trL x) (trL y) l h "InvalidRange" (.tup [l, h])
theorem Door2.pu {x y l h o : D} {c : Str} (d : Door2 x y l h c o) : pureD o = true := by
  cases d with
  | a n => exact n.pu
  | b n => exact n.pu
  | rg n => exact n.pu
def badN (l h : Int) : D → Bool
  | .int i => decide (i < l) || decide (h < i)
  | _ => true
/-- no list of numbers of a range -/
structure NoNum (l h : Int) (d : D) : Prop where
  ty : tyL d = true
  pu : pureD d = true
  no : ∀ es, d = .lst es → es.length ≤ 1000 ∧ (∀ e ∈ es, tyL e = true ∧ pureD e = true) ∧ ∃ e ∈ es, badN l h e = true
/-- a line, a range and a list -/
inductive Door3 : D → D → D → D → Str → D → Prop
  | d {x l h n o : D} {c : Str} : Door x l h c o → Door3 x l h n c o
  | n {x : Tr} {l h : Int} {n : D} : l < h → NoNum l h n → Door3 (trL x) (.int l) (.int h) n "InvalidList" n
theorem Door3.pu {x l h n o : D} {c : Str} (d : Door3 x l h n c o) : pureD o = true := by
  cases d with
  | d n => exact n.pu
  | n _ n => exact n.pu
section
variable {g : DG} {t : DT} {e : DE} {va : DA} {vs : List Nat} {γ : Gm} {M M1 : Mem} {R : DR} (c : D → Bool) (f : D → D)
/-- filter and map over zip of a list and an owned list -/
theorem mf_zipO (ds es : List D) (q : Addr) (hva : ∀ F : List D → Mem → Prop, F [.lst ds, .own q] M1 → va γ M F) (hq : M1 q = some (.lst es)) (hl : (zipF ds es).length < sizeLine) (hp : ∀ d ∈ zipF ds es, c d = true → pureD (f d) = true)
    (step : ∀ (i : Nat) (d : D) (p : Addr) (acc : List D) (P : DR) (Q : Mem → Prop), (zipF ds es)[i]? = some d → M1 p = none → (c d = true → P (f d) (mset M1 p (.lst acc))) → (c d = false → Q (mset M1 p (.lst acc))) →
      g d (gwipe γ vs) (mset M1 p (.lst acc)) fun γ2 M2 => t γ2 M2 fun b M3 => (b = true → e γ2 M3 P) ∧ (b = false → Q M3))
    (hR : R (.lst (((zipF ds es).filter c).map f)) M1) : vLc (wZip va) g t e vs γ M R := by
  refine hva _ ?_
  show (match false, false, some ds, seqI M1 (.own q) with | false, false, some ds, some es => _ | _, _, _, _ => False)
  rw [seqI_own hq]
  refine lc_mf (j := liZ (.lst ds) (.own q) ds es) c f hl (fun p acc hp => ⟨rfl, ?_⟩) hp step hR
  have ne : q ≠ p := fun z => by rw [z, hp] at hq; cases hq
  exact seqI_own (by rw [mset_ne ne]; exact hq)
end
/-- the text of a value -/
def TxtOk (S : DSp) (d : D) (t : Str) : Prop := PyData.strOk t = true ∧ ((∃ p, ShowOk d p ∧ t = p.shown) ∨ ∀ M, ShowX S M d t)
theorem TxtOk.x {S : DSp} {d : D} {M : Mem} {R : DR} {t : Str} (h : TxtOk S d t) (k : R (.str t) M) : oReprX S [d] M R := shu_x h.2 k
theorem str2_ok {w t : Str} (hw : PyData.strOk w = true) (ht : PyData.strOk t = true) : cmpD 64 (.lst [.str w, .str t]) = true := by
  simp [cmpD, cmpL, hw, ht]
def kindW : List (Str × Str) := [("InvalidLine", "line"), ("InvalidRange", "range"), ("InvalidNumber", "number"), ("InvalidList", "list"), ("InvalidRecipe", "recipe"), ("InvalidTest", "test")]
def kindS : List D := [.str "line", .str "range", .str "number", .str "list", .str "recipe", .str "test"]
/-! ### texts of lists -/
theorem tf_len {n : Nat} : ∀ (ts : List Str) (k : Nat) (acc : Str), (∀ t ∈ ts, t.length ≤ n) → (PySem.textFrom k acc ts).length ≤ acc.length + ts.length * (n + 2)
  | [], k, acc, _ => by show acc.length ≤ _; omega
  | t :: ts, k, acc, h => by
    have a2 : (Str.ofString ", ").length = 2 := by decide +kernel
    have a0 : (Str.ofString "").length = 0 := by decide +kernel
    have ih := tf_len ts (k + 1) (acc ++ (if k > 0 then ", " else "" : String) ++ t) (fun u hu => h u (List.mem_cons_of_mem _ hu))
    have ht := h t List.mem_cons_self
    show (PySem.textFrom (k + 1) (acc ++ (if k > 0 then ", " else "" : String) ++ t) ts).length ≤ _
    have e : (acc ++ Str.ofString (if k > 0 then ", " else "" : String) ++ t).length ≤ acc.length + (n + 2) := by
      simp only [Str.length_append]
      split
      · rw [a2]; omega
      · rw [a0]; omega
    have g : (ts.length + 1) * (n + 2) = ts.length * (n + 2) + (n + 2) := by rw [Nat.succ_mul]
    rw [List.length_cons, g]
    have e' := Nat.le_trans ih (Nat.add_le_add_right e _)
    omega
theorem tf_ok : ∀ (ts : List Str) (k : Nat) (acc : Str), PyData.strOk acc = true → (∀ t ∈ ts, PyData.strOk t = true) → PyData.strOk (PySem.textFrom k acc ts) = true
  | [], _, acc, h, _ => h
  | t :: ts, k, acc, h, ht => by
    refine tf_ok ts (k + 1) (acc ++ (if k > 0 then ", " else "" : String) ++ t) ?_ (fun u hu => ht u (List.mem_cons_of_mem _ hu))
    rw [okS_app, okS_app, h, ht t List.mem_cons_self]
    show (true && PyData.strOk (Str.ofString (if k > 0 then ", " else "" : String)) && true) = true
    rw [okS_of]
    rfl
section
variable {txt : Int × Int × Int → Str}
theorem shXL_memN : ∀ {ds : List D} {t : Str}, t ∈ shXL txt ds → ∃ d ∈ ds, t = shX txt d
  | d :: ds, t, h => by
    unfold shXL at h
    rcases List.mem_cons.mp h with h | h
    · exact ⟨d, List.mem_cons_self, h⟩
    · obtain ⟨e, he, k⟩ := shXL_memN h
      exact ⟨e, List.mem_cons_of_mem _ he, k⟩
theorem shXL_len : ∀ (ds : List D), (shXL txt ds).length = ds.length
  | [] => rfl
  | d :: ds => by unfold shXL; rw [List.length_cons, List.length_cons, shXL_len ds]
theorem okXL_of : ∀ {ds : List D}, (∀ d ∈ ds, okX d = true) → okXL ds = true
  | [], _ => rfl
  | d :: ds, h => by
    unfold okXL
    rw [h d List.mem_cons_self, okXL_of (fun e he => h e (List.mem_cons_of_mem _ he))]
    rfl
theorem lnsXL_mem : ∀ {ds : List D} {x : Int × Int × Int}, x ∈ lnsXL ds → ∃ d ∈ ds, x ∈ lnsX d
  | d :: ds, x, h => by
    unfold lnsXL at h
    rcases List.mem_append.mp h with h | h
    · exact ⟨d, List.mem_cons_self, h⟩
    · obtain ⟨e, he, k⟩ := lnsXL_mem h
      exact ⟨e, List.mem_cons_of_mem _ he, k⟩
/-- a list of shown things -/
theorem gx_lstN {es : List D} {n : Nat} (h : ∀ e ∈ es, GX txt e n) : GX txt (.lst es) (es.length * (n + 2) + 2) := by
  have a1 : (Str.ofString "[").length = 1 := by decide +kernel
  have a3 : (Str.ofString "]").length = 1 := by decide +kernel
  have e : shX txt (.lst es) = PySem.textFrom 0 (Str.ofString "[") (shXL txt es) ++ Str.ofString "]" := by
    simp only [shX]
    rfl
  refine ⟨?_, fun x hx => ?_, ?_, ?_⟩
  · show okXL es = true
    exact okXL_of fun d hd => (h d hd).ok
  · obtain ⟨d, hd, k⟩ := lnsXL_mem (show x ∈ lnsXL es from hx)
    exact (h d hd).ln x k
  · rw [e, Str.length_append, a3]
    have := tf_len (n := n) (shXL txt es) 0 (Str.ofString "[") (fun t ht => by obtain ⟨d, hd, rfl⟩ := shXL_memN ht; exact (h d hd).len)
    rw [a1, shXL_len] at this
    omega
  · rw [e, okS_app, okS_of, tf_ok (shXL txt es) 0 (Str.ofString "[") (okS_of _) (fun t ht => by obtain ⟨d, hd, rfl⟩ := shXL_memN ht; exact (h d hd).st)]
    rfl
theorem gx_intN {i : Int} {n : Nat} (h : Sm n i) (h0 : 0 < n) (h1 : n ≤ 900) : GX txt (.int i) (n + 1) := ⟨(gx_int (txt := txt) (h.mono h1)).ok, (gx_int (txt := txt) (h.mono h1)).ln, len_int h h0, okS_of _⟩
theorem depXL_le : ∀ {ds : List D} {n : Nat}, (∀ d ∈ ds, depX d ≤ n) → depXL ds ≤ n
  | [], _, _ => Nat.zero_le _
  | d :: ds, n, h => by
    have := depXL_le (ds := ds) (n := n) fun e he => h e (List.mem_cons_of_mem _ he)
    have := h d List.mem_cons_self
    unfold depXL
    omega
end
theorem pureL_of : ∀ {ds : List D}, (∀ d ∈ ds, pureD d = true) → pureL ds = true
  | [], _ => rfl
  | d :: ds, h => by
    unfold pureL
    rw [h d List.mem_cons_self, pureL_of (fun e he => h e (List.mem_cons_of_mem _ he))]
    rfl
theorem noNum_o {l h : Int} {d : D} (ty : tyL d = true) (pu : pureD d = true) (n : ∀ es, d ≠ .lst es) : NoNum l h d := ⟨ty, pu, fun es e => absurd e (n es)⟩
theorem noNum_lst {l h : Int} {es : List D} (h1 : es.length ≤ 1000) (h2 : ∀ e ∈ es, tyL e = true ∧ pureD e = true) (h3 : ∃ e ∈ es, badN l h e = true) : NoNum l h (.lst es) :=
  ⟨rfl, by show pureL es = true; exact pureL_of fun e he => (h2 e he).2, fun es' e => by cases e; exact ⟨h1, h2, h3⟩⟩
theorem lstI_own {M : Mem} {a : Addr} {ds : List D} (h : M a = some (.lst ds)) : lstI M (.own a) = some ds := by unfold lstI; simp only [h]
/-- a list handed out frozen, with another one of the def's own beside it, under a purse -/
theorem fin_frzQ {M : Mem} {R : DR} {a p q : Addr} {m m' x : MO} {ds : List D} (hp : M p = none) (hq : M q = none) (pa : p ≠ a) (qa : q ≠ a) (qp : q ≠ p) (h : R (.lst ds) (mset M a m')) : fin (mset M a m) R (.own q) (mset (mset (mset M p x) q (.lst ds)) a m') := by
  have hp' : mset M a m' p = none := by rw [mset_ne pa]; exact hp
  have hq' : mset (mset M a m') p x q = none := by rw [mset_ne qp, mset_ne qa]; exact hq
  rw [mset_comm qa, mset_comm pa]
  exact ⟨.lst ds, mset M a m', (Sub.refl.more hp').more hq', dom_sw, .inr (.inl ⟨q, ds, rfl, mset_same, by rw [mset_ne qa]; exact hq, rfl⟩), h⟩
/-- a comprehension over a range that is drawn -/
theorem vlc_rng1D {va : DA} {g : DG} {t : DT} {e : DE} {vs : List Nat} {γ : Gm} {M : Mem} {a : Addr} {m : MO} {R : DR} (P : Int → MO → Prop) (hva : ∀ F : List D → Mem → Prop, (∀ k m1, P k m1 → F [.int k] (mset M a m1)) → va γ (mset M a m) F)
    (Pm : Int → Nat → MO → Prop) (Pa : Int → Nat → List D → Prop) (hk : ∀ k m1, P k m1 → (-4611686018427387904 ≤ k ∧ k < 4611686018427387904) ∧ Pm k 0 m1 ∧ Pa k 0 []) (hl : ∀ k i acc, Pa k i acc → acc.length < sizeLine)
    (step : ∀ k i acc m' p, p ≠ a → Pm k i m' → Pa k i acc → i < k.toNat → g (.int (i : Int)) (gwipe γ vs) (mset (mset M p (.lst acc)) a m') fun γ2 M2 => t γ2 M2 fun b M3 =>
      (b = true → e γ2 M3 fun y M4 => pureD y = true ∧ ∃ M5, M4 = mset M5 p (.lst acc) ∧ ∃ m2, M5 = mset M a m2 ∧ Pm k (i + 1) m2 ∧ Pa k (i + 1) (acc ++ [y])) ∧ (b = false → ∃ M5, M3 = mset M5 p (.lst acc) ∧ ∃ m2, M5 = mset M a m2 ∧ Pm k (i + 1) m2 ∧ Pa k (i + 1) acc))
    (hR : ∀ k acc m', 0 ≤ k → Pm k k.toNat m' → Pa k k.toNat acc → R (.lst acc) (mset M a m')) (h0 : ∀ k m1, P k m1 → 0 ≤ k) : vLc (wRng1 va) g t e vs γ (mset M a m) R :=
  hva _ fun k m1 hP => ⟨(hk k m1 hP).1.1, (hk k m1 hP).1.2, lc_rng (Pm k) (Pa k) (hk k m1 hP).2.1 (hk k m1 hP).2.2 (hl k) (fun i acc m' p hne hm ha hi => by rw [Int.zero_add]; exact step k i acc m' p hne hm ha hi) (hR k · · (h0 k m1 hP))⟩
end Dl
local macro_rules | `(tactic| walk_at "v") => `(tactic| try simp (config := {maxSteps := 2000000}) only [Dl.e_oReprSD, Dl.e_vExn, Dl.e_vCmX, Dl.e_vBinX, Dl.e_oNeLs, Dl.e_oEqX, Dl.e_oNeX, Dl.f_sortS, Dl.lkE, Dl.f_repT, Dl.e_vObjOX, Dl.e_vObjVX, Dl.f_inW2, Dl.f_inW3, Dl.f_eqNt, Dl.e_vSlS, Dl.f_isF, Dl.f_eqNO, Dl.e_vDGet, Dl.e_vDGet1, Dl.e_vDPut, Dl.e_vDctO, Dl.e_vKeysL, Dl.e_wStr, Dl.e_oInSg, Dl.e_vObjV, Dl.okF_dct, Dl.okF_ln, Dl.fldD_dct, Dl.dctI_dct, Dl.dctI_same, Dl.f_lenDc, Dl.f_inDc, Dl.f_dictc, Dl.f_dictOc, Dl.k_str, Dl.k_int, Dl.e_vFrz, Dl.e_vRaise0, Dl.e_vRecK, Dl.e_vLineK, Dl.pkm1, Dl.pkm2, Dl.pkm3, Dl.pkm4, Dl.pkm5, Dl.pkm6, Dl.e_vMakeV, Dl.f_cls, Dl.e_vCm, Dl.f_strI, Dl.e_vJoin, Dl.e_vFmt, Dl.e_vFs, Dl.e_vJs0, Dl.e_vJs1, Dl.e_oReprL, Dl.e_vLineX, Dl.strsOf, Dl.e_vObjX, Dl.e_vParX, Dl.f_eqNl, Dl.e_oReprD, Dl.e_oReprX, Dl.e_vSlO, Dl.e_vPopI, Dl.e_vDct0, Dl.e_vDct, Dl.e_vPs, Dl.f_catT, Dl.e_vFldO, Dl.e_vSetF, Dl.e_vAugF, Dl.e_vObjO, Dl.e_vMakeO, Dl.putD_nil, Dl.putD_z, Dl.putD_s, Dl.okF_own, Dl.okF_int, Dl.okF_bl, Dl.okF_non, Dl.okF_tup, Dl.okF_lst, Dl.fldD_own, Dl.fldD_int, Dl.fldD_bl, Dl.fldD_tup, Dl.fldD_lst, Dl.word_beq, Dl.e_vIsX, Dl.e_vFld, Dl.e_vTry, Dl.xdD, if_true, if_false, K01.in_InvalidLine, K01.nf_InvalidLine, K01.fl_InvalidLine, K01.in_InvalidRange, K01.nf_InvalidRange, K01.fl_InvalidRange, K01.in_InvalidNumber, K01.nf_InvalidNumber, K01.fl_InvalidNumber, K01.in_InvalidList, K01.nf_InvalidList, K01.fl_InvalidList, K01.in_InvalidRecipe, K01.nf_InvalidRecipe, K01.fl_InvalidRecipe, K01.in_InvalidTest, K01.nf_InvalidTest, K01.fl_InvalidTest, K01.in_NotRising, K01.nf_NotRising, K01.fl_NotRising, K01.in_UnknownName, K01.nf_UnknownName, K01.fl_UnknownName, K01.in_TakenName, K01.nf_TakenName, K01.fl_TakenName, K01.in_InvalidName, K01.nf_InvalidName, K01.fl_InvalidName, K01.in_TooNarrow, K01.nf_TooNarrow, K01.fl_TooNarrow, K01.in_InvalidCode, K01.nf_InvalidCode, K01.fl_InvalidCode, K01.in_Overflow, K01.nf_Overflow, K01.fl_Overflow, K01.in_NothingToUndo, K01.nf_NothingToUndo, K01.fl_NothingToUndo, Dl.f_eqE, Dl.f_isB, Dl.e_vSlT, Dl.e_vOrT, Dl.pk32, Dl.pk42, Dl.pk52, Dl.e_vTupOf, Dl.unrollL_cons, Dl.unrollL_nil, Dl.e_dSeqL, Dl.e_vL, Dl.e_tL, Dl.e_aL, Dl.e_vConsX, Dl.e_vCallX, Dl.e_vCallKX, Dl.e_vDropX, Dl.e_vAsgX, Dl.e_vRetX, Dl.e_vIfX, Dl.e_vBX, Dl.e_vIsNX, Dl.e_vNotX, Dl.e_vRaise, Dl.e_xxx, Dl.e_xnx, Dl.e_xrt, Dl.f_nEx, Dl.f_nE0, Dl.f_tyD, Dl.f_nD, Dl.f_wD, Dl.f_wLn, Dl.e_vIsiL, Dl.e_vAugL, Dl.lstI, Dl.f_ltT2, Dl.e_oNeL, Dl.e_vChain3, Dl.pk01, Dl.pk02, Dl.pk03, Dl.pk04, Dl.pk05, Dl.pk06, Dl.pk07, Dl.pk08, Dl.pk11, Dl.pk21, Dl.pk31, Dl.pk41, Dl.pk51, Dl.cp10, Dl.e_vSortSetO, Dl.f_rep, Dl.f_reprB, Dl.f_reprN, Dl.f_reprI, Dl.e_vObj, Dl.e_vClear, Dl.f_addOLL, Dl.e_vLRgA, Dl.e_vSortSet, Dl.e_dLst, Dl.e_vRev, Dl.f_lnL, Dl.e_vNegL, Dl.e_oBinL, Dl.e_vParts, Dl.e_vLine, Dl.e_oEqL, Dl.e_vIsL, Dl.f_subO, Dl.f_subN, Dl.f_tyLn, Dl.l_non, Dl.l_bl, Dl.l_int, Dl.l_str, Dl.l_tup, Dl.l_lst, Dl.l_scr, Dl.l_own, Dl.l_dct, Dl.t_ln, Dl.t_non, Dl.t_bl, Dl.t_int, Dl.t_str, Dl.t_tup, Dl.t_lst, Dl.t_own, Dl.t_dct, Dl.e_vSeq, Dl.e_wEnum, Dl.e_wZip, Dl.e_oMax1, Dl.e_oMin1, Dl.f_intsL, Dl.f_eqW, Dl.f_in2, Dl.f_in4, String.reduceEq, decide_true, decide_false, Bool.true_or, Bool.or_true, Bool.false_or, Bool.or_false, Dl.intsD_map, Dl.e_vPar3, Dl.e_oSorted, Dl.e_vPop, Dl.e_vIf, Dl.e_vB, Dl.e_vOp, Dl.e_vVar, Dl.e_vC, Dl.e_vNever, Dl.e_vNext, Dl.e_vRet, Dl.e_vRetN, Dl.e_vDrop, Dl.e_vBreak, Dl.e_vCont, Dl.e_vAnd, Dl.e_vOr, Dl.e_vNot, Dl.e_vAndV, Dl.e_vOrV, Dl.e_vNotV, Dl.e_vIte, Dl.e_vIsN, Dl.e_vIsi, Dl.e_vNeg, Dl.e_vNil, Dl.e_vCons, Dl.e_vTup, Dl.e_vLst, Dl.e_vLstO, Dl.e_vIxC, Dl.e_vSl, Dl.e_vNoPart, Dl.e_vPart, Dl.e_vChain, Dl.e_vCB, Dl.e_vBits, Dl.e_vCall, Dl.e_vCallK, Dl.e_vAsg, Dl.e_vPar, Dl.e_vAug, Dl.e_vAppend, Dl.e_vYes, Dl.e_dName, Dl.e_dNil, Dl.e_dCons, Dl.e_dTup, Dl.e_dSub, Dl.f_oI, Dl.f_oI0, Dl.f_addI, Dl.f_addS, Dl.f_addLL, Dl.f_addOL, Dl.f_addLO, Dl.f_eqI, Dl.f_eqB, Dl.f_eqNI, Dl.f_eqIN, Dl.f_eqNN, Dl.f_ixL, Dl.f_ixT, Dl.f_ixS, Dl.f_ixO, Dl.f_C1, Dl.f_C2, Dl.f_intI, Dl.f_intB, Dl.f_lenS, Dl.f_lenL, Dl.f_lenT, Dl.f_lenC, Dl.f_lenO, Dl.f_listL, Dl.f_listT, Dl.f_listOL, Dl.f_listOT, Dl.f_sumL, Dl.e_wList, Dl.e_wTup, Dl.e_wRng1, Dl.e_wRng2, Dl.liD, Dl.gt, Dl.gset, Dl.gwipe, Dl.st0, Dl.e_frt, Dl.e_fnx, Dl.e_fbk, Dl.e_fct, Dl.nthD, Dl.f_sqL, Dl.f_sqT, Dl.f_sqC, Dl.f_sqO, Dl.f_itL, Dl.f_itT, Dl.f_itC, Dl.f_itO, Dl.f_tmN, Dl.f_tmB, Dl.f_tmI, Dl.f_tmS, Dl.f_tmT, Dl.f_tmL, Dl.f_tmD, Dl.f_tmO, Dl.lstAt_set, Dl.f_tyN, Dl.f_tyB, Dl.f_tyI, Dl.f_tyS, Dl.f_tyT, Dl.f_tyL, Dl.f_tyO, Dl.Ty.sub, Dl.f_nN, Dl.f_nB, Dl.f_nI, Dl.f_nS, Dl.f_nT, Dl.f_nL, Dl.f_nO, Dl.f_nLn, Dl.f_wN, Dl.f_wB, Dl.f_wI, Dl.f_wS, Dl.f_wT, Dl.f_wL, Dl.f_wO, Dl.pureD, Dl.pureL, Dl.constL, Dl.constV, List.set_cons_succ, List.set_cons_zero, List.map_nil, List.map_cons, List.append_nil, List.nil_append, List.cons_append, List.length_cons, List.length_nil, Nat.zero_add, Nat.reduceAdd, id_eq, Bool.not_true, Bool.not_false, Bool.and_self, Bool.true_and, Bool.and_true, Bool.false_and, Bool.and_false, Bool.false_eq_true, Bool.true_eq_false, reduceCtorEq, false_implies, forall_const, Int.cast_ofNat_Int, Int.reduceEq, Int.reduceLT, Int.reduceLE, Int.reduceToNat, ne_eq, not_true_eq_false, not_false_eq_true, eq_self, Int.one_mul, Int.zero_add, Int.add_zero, Dl.e_vLRg1, Dl.e_vLRg2, Dl.mset_same, Dl.mset_set, Dl.cp1, Dl.cp2, Dl.cp3, Dl.cp3', Dl.cp4, Dl.cp5, Dl.cp6, Dl.cp7, Dl.cp8, true_and, and_true, implies_true, true_implies, decide_eq_true_eq, decide_eq_false_iff_not, Bool.not_eq_true', Bool.not_eq_false'])
local macro_rules | `(tactic| walk_at "w") => `(tactic| try simp (config := {maxSteps := 2000000}) only [Dl.e_oReprSD, Dl.e_vExn, Dl.e_vCmX, Dl.e_vBinX, Dl.e_oNeLs, Dl.e_oEqX, Dl.e_oNeX, Dl.f_sortS, Dl.lkE, Dl.f_repT, Dl.e_vObjOX, Dl.e_vObjVX, Dl.f_inW2, Dl.f_inW3, Dl.f_eqNt, Dl.e_vSlS, Dl.f_isF, Dl.f_eqNO, Dl.e_vDGet, Dl.e_vDGet1, Dl.e_vDPut, Dl.e_vDctO, Dl.e_vKeysL, Dl.e_wStr, Dl.e_oInSg, Dl.e_vObjV, Dl.okF_dct, Dl.okF_ln, Dl.fldD_dct, Dl.dctI_dct, Dl.dctI_same, Dl.f_lenDc, Dl.f_inDc, Dl.f_dictc, Dl.f_dictOc, Dl.k_str, Dl.k_int, Dl.e_vFrz, Dl.e_vRaise0, Dl.e_vRecK, Dl.e_vLineK, Dl.pkm1, Dl.pkm2, Dl.pkm3, Dl.pkm4, Dl.pkm5, Dl.pkm6, Dl.e_vMakeV, Dl.f_cls, Dl.e_vCm, Dl.f_strI, Dl.e_vJoin, Dl.e_vFmt, Dl.e_vFs, Dl.e_vJs0, Dl.e_vJs1, Dl.e_oReprL, Dl.e_vLineX, Dl.strsOf, Dl.e_vObjX, Dl.e_vParX, Dl.f_eqNl, Dl.e_oReprD, Dl.e_oReprX, Dl.e_vSlO, Dl.e_vPopI, Dl.e_vDct0, Dl.e_vDct, Dl.e_vPs, Dl.f_catT, Dl.e_vFldO, Dl.e_vSetF, Dl.e_vAugF, Dl.e_vObjO, Dl.e_vMakeO, Dl.putD_nil, Dl.putD_z, Dl.putD_s, Dl.okF_own, Dl.okF_int, Dl.okF_bl, Dl.okF_non, Dl.okF_tup, Dl.okF_lst, Dl.fldD_own, Dl.fldD_int, Dl.fldD_bl, Dl.fldD_tup, Dl.fldD_lst, Dl.word_beq, Dl.e_vIsX, Dl.e_vFld, Dl.e_vTry, Dl.xdD, if_true, if_false, K01.in_InvalidLine, K01.nf_InvalidLine, K01.fl_InvalidLine, K01.in_InvalidRange, K01.nf_InvalidRange, K01.fl_InvalidRange, K01.in_InvalidNumber, K01.nf_InvalidNumber, K01.fl_InvalidNumber, K01.in_InvalidList, K01.nf_InvalidList, K01.fl_InvalidList, K01.in_InvalidRecipe, K01.nf_InvalidRecipe, K01.fl_InvalidRecipe, K01.in_InvalidTest, K01.nf_InvalidTest, K01.fl_InvalidTest, K01.in_NotRising, K01.nf_NotRising, K01.fl_NotRising, K01.in_UnknownName, K01.nf_UnknownName, K01.fl_UnknownName, K01.in_TakenName, K01.nf_TakenName, K01.fl_TakenName, K01.in_InvalidName, K01.nf_InvalidName, K01.fl_InvalidName, K01.in_TooNarrow, K01.nf_TooNarrow, K01.fl_TooNarrow, K01.in_InvalidCode, K01.nf_InvalidCode, K01.fl_InvalidCode, K01.in_Overflow, K01.nf_Overflow, K01.fl_Overflow, K01.in_NothingToUndo, K01.nf_NothingToUndo, K01.fl_NothingToUndo, Dl.f_eqE, Dl.f_isB, Dl.e_vSlT, Dl.e_vOrT, Dl.pk32, Dl.pk42, Dl.pk52, Dl.e_vTupOf, Dl.unrollL_cons, Dl.unrollL_nil, Dl.e_dSeqL, Dl.e_vL, Dl.e_tL, Dl.e_aL, Dl.e_vConsX, Dl.e_vCallX, Dl.e_vCallKX, Dl.e_vDropX, Dl.e_vAsgX, Dl.e_vRetX, Dl.e_vIfX, Dl.e_vBX, Dl.e_vIsNX, Dl.e_vNotX, Dl.e_vRaise, Dl.e_xxx, Dl.e_xnx, Dl.e_xrt, Dl.f_nEx, Dl.f_nE0, Dl.f_tyD, Dl.f_nD, Dl.f_wD, Dl.f_wLn, Dl.e_vIsiL, Dl.e_vAugL, Dl.lstI, Dl.f_ltT2, Dl.e_oNeL, Dl.e_vChain3, Dl.pk01, Dl.pk02, Dl.pk03, Dl.pk04, Dl.pk05, Dl.pk06, Dl.pk07, Dl.pk08, Dl.pk11, Dl.pk21, Dl.pk31, Dl.pk41, Dl.pk51, Dl.cp10, Dl.e_vSortSetO, Dl.f_rep, Dl.f_reprB, Dl.f_reprN, Dl.f_reprI, Dl.e_vObj, Dl.e_vClear, Dl.f_addOLL, Dl.e_vLRgA, Dl.e_vSortSet, Dl.e_dLst, Dl.e_vRev, Dl.f_lnL, Dl.e_vNegL, Dl.e_oBinL, Dl.e_vParts, Dl.e_vLine, Dl.e_oEqL, Dl.e_vIsL, Dl.f_subO, Dl.f_subN, Dl.f_tyLn, Dl.l_non, Dl.l_bl, Dl.l_int, Dl.l_str, Dl.l_tup, Dl.l_lst, Dl.l_scr, Dl.l_own, Dl.l_dct, Dl.t_ln, Dl.t_non, Dl.t_bl, Dl.t_int, Dl.t_str, Dl.t_tup, Dl.t_lst, Dl.t_own, Dl.t_dct, Nat.zero_le, Dl.sz1, Dl.sz2, Dl.sz3, Dl.sz4, Dl.sz5, Dl.sz6, Dl.sz7, Dl.sz8, Dl.sz9, Dl.sz10, Dl.sz11, Dl.sz12, Dl.sz13, Dl.sz14, Dl.sz15, Dl.sz16, Dl.sl0, Dl.sl1, Dl.sl2, Dl.sl3, Dl.sl4, Dl.sl5, Dl.sl6, Dl.sl7, Dl.sl8, Dl.sl9, Dl.sl10, Dl.sl11, Dl.sl12, Dl.sl13, Dl.sl14, Dl.sl15, Dl.sl16, Dl.e_vSeq, Dl.e_wEnum, Dl.e_wZip, Dl.e_oMax1, Dl.e_oMin1, Dl.f_intsL, Dl.f_eqW, Dl.f_in2, Dl.f_in4, String.reduceEq, decide_true, decide_false, Bool.true_or, Bool.or_true, Bool.false_or, Bool.or_false, Dl.intsD_map, Dl.e_vPar3, Dl.e_oSorted, Dl.e_vPop, Dl.e_vIf, Dl.e_vB, Dl.e_vOp, Dl.e_vVar, Dl.e_vC, Dl.e_vNever, Dl.e_vNext, Dl.e_vRet, Dl.e_vRetN, Dl.e_vDrop, Dl.e_vBreak, Dl.e_vCont, Dl.e_vAnd, Dl.e_vOr, Dl.e_vNot, Dl.e_vAndV, Dl.e_vOrV, Dl.e_vNotV, Dl.e_vIte, Dl.e_vIsN, Dl.e_vIsi, Dl.e_vNeg, Dl.e_vNil, Dl.e_vCons, Dl.e_vTup, Dl.e_vLst, Dl.e_vLstO, Dl.e_vIxC, Dl.e_vSl, Dl.e_vNoPart, Dl.e_vPart, Dl.e_vChain, Dl.e_vCB, Dl.e_vBits, Dl.e_vCall, Dl.e_vCallK, Dl.e_vAsg, Dl.e_vPar, Dl.e_vAug, Dl.e_vAppend, Dl.e_vYes, Dl.e_dName, Dl.e_dNil, Dl.e_dCons, Dl.e_dTup, Dl.e_dSub, Dl.f_oI, Dl.f_oI0, Dl.f_addI, Dl.f_addS, Dl.f_addLL, Dl.f_addOL, Dl.f_addLO, Dl.f_eqI, Dl.f_eqB, Dl.f_eqNI, Dl.f_eqIN, Dl.f_eqNN, Dl.f_ixL, Dl.f_ixT, Dl.f_ixS, Dl.f_ixO, Dl.f_C1, Dl.f_C2, Dl.f_intI, Dl.f_intB, Dl.f_lenS, Dl.f_lenL, Dl.f_lenT, Dl.f_lenC, Dl.f_lenO, Dl.f_listL, Dl.f_listT, Dl.f_listOL, Dl.f_listOT, Dl.f_sumL, Dl.e_wList, Dl.e_wTup, Dl.e_wRng1, Dl.e_wRng2, Dl.liD, Dl.gt, Dl.gset, Dl.gwipe, Dl.st0, Dl.e_frt, Dl.e_fnx, Dl.e_fbk, Dl.e_fct, Dl.nthD, Dl.f_sqL, Dl.f_sqT, Dl.f_sqC, Dl.f_sqO, Dl.f_itL, Dl.f_itT, Dl.f_itC, Dl.f_itO, Dl.f_tmN, Dl.f_tmB, Dl.f_tmI, Dl.f_tmS, Dl.f_tmT, Dl.f_tmL, Dl.f_tmD, Dl.f_tmO, Dl.lstAt_set, Dl.f_tyN, Dl.f_tyB, Dl.f_tyI, Dl.f_tyS, Dl.f_tyT, Dl.f_tyL, Dl.f_tyO, Dl.Ty.sub, Dl.f_nN, Dl.f_nB, Dl.f_nI, Dl.f_nS, Dl.f_nT, Dl.f_nL, Dl.f_nO, Dl.f_nLn, Dl.f_wN, Dl.f_wB, Dl.f_wI, Dl.f_wS, Dl.f_wT, Dl.f_wL, Dl.f_wO, Dl.pureD, Dl.pureL, Dl.constL, Dl.constV, List.set_cons_succ, List.set_cons_zero, List.map_nil, List.map_cons, List.append_nil, List.nil_append, List.cons_append, List.length_cons, List.length_nil, Nat.zero_add, Nat.reduceAdd, id_eq, Bool.not_true, Bool.not_false, Bool.and_self, Bool.true_and, Bool.and_true, Bool.false_and, Bool.and_false, Bool.false_eq_true, Bool.true_eq_false, reduceCtorEq, false_implies, forall_const, Int.cast_ofNat_Int, Int.reduceEq, Int.reduceLT, Int.reduceLE, Int.reduceToNat, ne_eq, not_true_eq_false, not_false_eq_true, eq_self, Int.one_mul, Int.zero_add, Int.add_zero, Dl.e_vLRg1, Dl.e_vLRg2, Dl.mset_same, Dl.mset_set, Dl.cp1, Dl.cp2, Dl.cp3, Dl.cp3', Dl.cp4, Dl.cp5, Dl.cp6, Dl.cp7, Dl.cp8, true_and, and_true, implies_true, true_implies, decide_eq_true_eq, decide_eq_false_iff_not, Bool.not_eq_true', Bool.not_eq_false'])
namespace K01
open PySem L2 Dl
structure Txt (K : PySem.W.Frag) (mg : Str → Option Value) : Prop where
  b_ValueError : mg "ValueError" = none
  b_int : mg "int" = none
  b_isinstance : mg "isinstance" = none
  b_len : mg "len" = none
  b_max : mg "max" = none
  b_range : mg "range" = none
  b_repr : mg "repr" = none
  b_super : mg "super" = none
/-! ### _law_fields -/
abbrev N__law_fields : List Str := ["_law_errors", "_law_found", "_law_error"]
theorem sc__law_fields : FnScope N__law_fields ["_law_errors"] (defScope s__law_fields) := ⟨rfl, rfl, rfl, by decide +kernel, rfl, by decide +kernel, by decide +kernel⟩
def cls12 : List Str := ["InvalidLine", "InvalidRange", "InvalidNumber", "InvalidList", "InvalidRecipe", "InvalidTest", "UnknownName", "TakenName", "InvalidName", "TooNarrow", "InvalidCode", "Overflow"]
def exL12 (f : D) : List D := cls12.map fun c => D.exn c f
theorem fl6 : ∀ c ∈ cls12.take 6, c ∈ csL ∧ noFld c = false ∧ fldN c = "value" := by decide +kernel
theorem fl9 : ∀ c ∈ (cls12.drop 6).take 3, c ∈ csL ∧ noFld c = false ∧ fldN c = "name" := by decide +kernel
theorem flr : ∀ c ∈ cls12.drop 9, c ∈ csL ∧ noFld c = false := by decide +kernel
theorem map_all (cs : List Str) (f : D) : (((cs.map fun c => D.exn c f).filter fun _ => true).map fun _ => f) = List.replicate cs.length f := by
  rw [List.filter_eq_self.mpr (fun _ _ => rfl), List.map_map]
  exact List.map_const' ..
theorem pure_rep {f : D} (h : pureD f = true) : ∀ n, pureL (List.replicate n f) = true
  | 0 => rfl
  | n + 1 => by
    show (pureD f && pureL (List.replicate n f)) = true
    rw [h, pure_rep h n]; rfl
def S__law_fields : DSp := fun ds M R _ => ∃ (f : D), ds = [.lst (exL12 f)] ∧ pureD f = true ∧ R (.lst (List.replicate 12 f)) M
theorem ok__law_fields {P : Program} {w : World} {K : PySem.W.Frag} {mg : Str → Option Value} {base : Heap} {C f : Addr} {fd : FuncData} (T : Txt K mg) (F : FunD K "_law_fields" "_law_fields" (defArgs s__law_fields) (defBody s__law_fields) (defScope s__law_fields) [] [] f fd) (h_ex : ExAll K mg csL tsL) : FnOk P w K mg base CX0 1 f fd ["_law_errors"] (spD ⟨K, C⟩ 1 S__law_fields) := by
  have nd := sc__law_fields.nd
  refine fn_ok 3 1 F sc__law_fields (fun cdv A outer s H E hr =>
      (qss_cons (qs_setLc (i := 1) (own := [("_law_error", 2)]) nd (qi_list (q_sl (qv 0) qo_none (qo_some qi))) (blkOk_by (own := [("_law_error", 2)]) (N := N__law_fields) (sc := defScope s__law_fields) (by decide +kernel)) (fun _ _ _ _ _ => (qgw_name (i := 2) nd)) (fun _ _ _ _ _ => qts_nil) (fun _ _ _ _ _ => (q_fld (f := "value") h_ex (qv 2))) (sw_true rfl rfl rfl (by decide +kernel)))
      (qss_cons (qs_set (i := 1) nd (q_add (qv 1) (q_lc (own := [("_law_error", 2)]) nd (qi_list (q_sl (qv 0) (qo_some qi) (qo_some qi))) (blkOk_by (own := [("_law_error", 2)]) (N := N__law_fields) (sc := defScope s__law_fields) (by decide +kernel)) (fun _ _ _ _ _ => (qgw_name (i := 2) nd)) (fun _ _ _ _ _ => qts_nil) (fun _ _ _ _ _ => (q_fld (f := "name") h_ex (qv 2))))))
      (qss_one (qs_ret (q_add (qv 1) (q_lst (qa_cons (q_fld (f := "bits") h_ex (q_ixC 9 (qv 0))) (qa_cons (q_fld (f := "row") h_ex (q_ixC 10 (qv 0))) (qa_cons (q_fld (f := "row") h_ex (q_ixC 11 (qv 0))) qa_nil)))))))))) ?_
  rintro ds M R - ⟨f, rfl, hp, hR⟩
  walk_at "w"
  refine mf_list (fun _ => true) (fun _ => f) ((cls12.take 6).map fun c => D.exn c f) (fun F z => by walk_at "w"; exact z) (by show 6 < sizeLine; decide) (fun d _ _ => hp) ?_ ?_
  · intro i d q acc P Q hd hq hP hQ
    obtain ⟨c, hc, rfl⟩ := List.mem_map.mp (List.mem_of_getElem? hd)
    obtain ⟨h1, h2, h3⟩ := fl6 c hc
    walk_at "w"
    exact ⟨h1, h2, h3, hP rfl⟩
  rw [map_all]
  refine mf_list (fun _ => true) (fun _ => f) (((cls12.drop 6).take 3).map fun c => D.exn c f) (fun F z => by walk_at "w"; exact z) (by show 3 < sizeLine; decide) (fun d _ _ => hp) ?_ ?_
  · intro i d q acc P Q hd hq hP hQ
    obtain ⟨c, hc, rfl⟩ := List.mem_map.mp (List.mem_of_getElem? hd)
    obtain ⟨h1, h2, h3⟩ := fl9 c hc
    walk_at "w"
    exact ⟨h1, h2, h3, hP rfl⟩
  rw [map_all]
  rw [show nthD (exL12 f) 9 = some (.exn "TooNarrow" f) from rfl, show nthD (exL12 f) 10 = some (.exn "InvalidCode" f) from rfl, show nthD (exL12 f) 11 = some (.exn "Overflow" f) from rfl]
  walk_at "w"
  refine ⟨by show 9 ≤ sizeLine; decide, by show 12 ≤ sizeLine; decide, ?_⟩
  exact fin_pure hR (pure_rep hp 12)
/-! ### _law_kinds -/
abbrev N__law_kinds : List Str := ["_law_error", "_law_kinds_here", "_law_index"]
theorem sc__law_kinds : FnScope N__law_kinds ["_law_error"] (defScope s__law_kinds) := ⟨rfl, rfl, rfl, by decide +kernel, rfl, by decide +kernel, by decide +kernel⟩
def cls14 : List Str := ["InvalidLine", "InvalidRange", "InvalidNumber", "InvalidList", "InvalidRecipe", "InvalidTest", "NotRising", "UnknownName", "TakenName", "InvalidName", "TooNarrow", "InvalidCode", "Overflow", "NothingToUndo"]
def lcK (c : Str) : D → Bool
  | .int t => decide (cls14[t.toNat]? = some c)
  | _ => false
theorem flt14 : ∀ i : Fin 14, (List.range 14).filter (fun j => decide (cls14[j]? = cls14[i.val]?)) = [i.val] := by decide +kernel
theorem kinds_list {i : Nat} {c : Str} (hc : cls14[i]? = some c) : ((rngD 0 14).filter (lcK c)).map (fun d => d) = [D.int i] := by
  have il : i < 14 := (List.getElem?_eq_some_iff.mp hc).1
  unfold rngD
  rw [List.map_id', List.filter_map]
  have e : (List.range 14).filter (lcK c ∘ fun (j : Nat) => D.int (0 + (j : Int))) = [i] := by
    have h := flt14 ⟨i, il⟩
    simp only [hc] at h
    rw [← h]
    congr 1
    funext j
    show decide (cls14[(0 + (j : Int)).toNat]? = some c) = _
    rw [Int.zero_add, Int.toNat_natCast]
  rw [e]
  show [D.int (0 + (i : Int))] = _
  rw [Int.zero_add]
theorem kinds_at (c : Str) {j : Nat} (h : j < 14) : atI (cls14.map fun t => D.bl (c == t)) (j : Int) = some (.bl (lcK c (.int j))) := by
  have hx : cls14[j]? = some cls14[j] := List.getElem?_eq_getElem h
  refine atI_nat ?_
  rw [List.getElem?_map, hx]
  show some (D.bl (c == cls14[j])) = some (.bl (decide (cls14[(j : Int).toNat]? = some c)))
  rw [Int.toNat_natCast, hx]
  congr 2
  by_cases z : c = cls14[j]
  · rw [← z]; simp
  · rw [beq_false_of_ne z]
    exact (decide_eq_false fun q => z (Option.some.inj q).symm).symm
def S__law_kinds : DSp := fun ds M R _ => ∃ (i : Nat) (c : Str) (e : D), ds = [e] ∧ cls14[i]? = some c ∧ ((∃ f, e = .exn c f) ∨ e = .exn0 c) ∧ R (.lst [.int i]) M
theorem ok__law_kinds {P : Program} {w : World} {K : PySem.W.Frag} {mg : Str → Option Value} {base : Heap} {C f : Addr} {fd : FuncData} (T : Txt K mg) (F : FunD K "_law_kinds" "_law_kinds" (defArgs s__law_kinds) (defBody s__law_kinds) (defScope s__law_kinds) [] [] f fd) (h_ex : ExAll K mg csL tsL) : FnOk P w K mg base CX0 1 f fd ["_law_error"] (spD ⟨K, C⟩ 1 S__law_kinds) := by
  have nd := sc__law_kinds.nd
  refine fn_ok 3 1 F sc__law_kinds (fun cdv A outer s H E hr =>
      (qss_cons (qs_set (i := 1) nd (q_lst (qa_cons (q_isX (t := "InvalidLine") h_ex (by decide +kernel) (qv 0) rfl T.b_isinstance bb_isinstance) (qa_cons (q_isX (t := "InvalidRange") h_ex (by decide +kernel) (qv 0) rfl T.b_isinstance bb_isinstance) (qa_cons (q_isX (t := "InvalidNumber") h_ex (by decide +kernel) (qv 0) rfl T.b_isinstance bb_isinstance) qa_nil)))))
      (qss_cons (qs_set (i := 1) nd (q_add (qv 1) (q_lst (qa_cons (q_isX (t := "InvalidList") h_ex (by decide +kernel) (qv 0) rfl T.b_isinstance bb_isinstance) (qa_cons (q_isX (t := "InvalidRecipe") h_ex (by decide +kernel) (qv 0) rfl T.b_isinstance bb_isinstance) (qa_cons (q_isX (t := "InvalidTest") h_ex (by decide +kernel) (qv 0) rfl T.b_isinstance bb_isinstance) qa_nil))))))
      (qss_cons (qs_set (i := 1) nd (q_add (qv 1) (q_lst (qa_cons (q_isX (t := "NotRising") h_ex (by decide +kernel) (qv 0) rfl T.b_isinstance bb_isinstance) (qa_cons (q_isX (t := "UnknownName") h_ex (by decide +kernel) (qv 0) rfl T.b_isinstance bb_isinstance) (qa_cons (q_isX (t := "TakenName") h_ex (by decide +kernel) (qv 0) rfl T.b_isinstance bb_isinstance) qa_nil))))))
      (qss_cons (qs_set (i := 1) nd (q_add (qv 1) (q_lst (qa_cons (q_isX (t := "InvalidName") h_ex (by decide +kernel) (qv 0) rfl T.b_isinstance bb_isinstance) (qa_cons (q_isX (t := "TooNarrow") h_ex (by decide +kernel) (qv 0) rfl T.b_isinstance bb_isinstance) (qa_cons (q_isX (t := "InvalidCode") h_ex (by decide +kernel) (qv 0) rfl T.b_isinstance bb_isinstance) qa_nil))))))
      (qss_cons (qs_set (i := 1) nd (q_add (qv 1) (q_lst (qa_cons (q_isX (t := "Overflow") h_ex (by decide +kernel) (qv 0) rfl T.b_isinstance bb_isinstance) (qa_cons (q_isX (t := "NothingToUndo") h_ex (by decide +kernel) (qv 0) rfl T.b_isinstance bb_isinstance) qa_nil)))))
      (qss_cons (qs_if (QW.qt (qw_or (qt_not (qt_val (q_isX (t := "FourTestsError") h_ex (by decide +kernel) (qv 0) rfl T.b_isinstance bb_isinstance))) (qw_or1 (qt_not (qt_val (q_isV h_ex (qv 0) rfl T.b_isinstance bb_isinstance rfl T.b_ValueError))))))
        (qss_one (qs_ret (q_lst qa_nil)))
        qss_nil)
      (qss_one (qs_ret (q_lc (own := [("_law_index", 2)]) nd (qi_rng1 T.b_range (qa_cons qi qa_nil)) (blkOk_by (own := [("_law_index", 2)]) (N := N__law_kinds) (sc := defScope s__law_kinds) (by decide +kernel)) (fun _ _ _ _ _ => (qgw_name (i := 2) nd)) (fun _ _ _ _ _ => (qts_one (qt_val (q_ix (qv 1) (qv 2))))) (fun _ _ _ _ _ => (qv 2)))))))))))) ?_
  rintro ds M R - ⟨i, c, e, rfl, hc, he, hR⟩
  have hcs : c ∈ csL := by
    have : ∀ x ∈ cls14, x ∈ csL := by decide +kernel
    exact this c (List.mem_of_getElem? hc)
  have key : ∀ e : D, vLc (wRng1 (vCons (vC (D.int 14)) vNil)) (dName 2) (vB (vOp oIx (vVar 1) (vVar 2))) (vVar 2) [2] [some e, some (.lst (cls14.map fun t => D.bl (c == t))), none] M (fin M R) := fun e => by
    refine mf_rg1 (lcK c) (fun d => d) 14 (fun F z => by walk_at "w"; exact z) (by decide) (by decide) (by decide) (fun z hz _ => ?_) ?_ ?_
    · obtain ⟨n, hn⟩ := List.getElem?_of_mem hz
      obtain ⟨_, rfl⟩ := (rngD_get _ _ _ _).mp hn
      rfl
    · intro j q acc P Q hj hq hP hQ
      have hj : j < 14 := hj
      walk_at "w"
      refine ⟨_, kinds_at c hj, ?_⟩
      walk_at "w"
      exact ⟨hP, hQ⟩
    · rw [show Int.toNat 14 = 14 from rfl, kinds_list hc]
      exact fin_pure hR
  rcases he with ⟨f, rfl⟩ | rfl
  · walk_at "w"
    exact ⟨hcs, hcs, hcs, hcs, hcs, hcs, hcs, hcs, hcs, hcs, hcs, hcs, hcs, hcs, hcs, hcs, key _⟩
  · walk_at "w"
    exact ⟨hcs, hcs, hcs, hcs, hcs, hcs, hcs, hcs, hcs, hcs, hcs, hcs, hcs, hcs, hcs, hcs, key _⟩
/-! ### _law_right -/
abbrev N__law_right : List Str := ["_law_errors", "_law_wanted", "_law_kinds_here", "_law_error"]
theorem sc__law_right : FnScope N__law_right ["_law_errors", "_law_wanted"] (defScope s__law_right) := ⟨rfl, rfl, rfl, by decide +kernel, rfl, by decide +kernel, by decide +kernel⟩
def SS (d : D) : Prop := ∃ p, ShowS d p ∧ PyData.strOk p.shown = true
def kxD : D → D
  | .exn c _ => .lst [.int (cls14.idxOf c : Nat)]
  | d => d
theorem kx_at : ∀ c ∈ cls12, cls14[cls14.idxOf c]? = some c := by decide +kernel
theorem kx_map : cls12.map (fun c => cls14.idxOf c) = [0, 1, 2, 3, 4, 5, 7, 8, 9, 10, 11, 12] := by decide +kernel
theorem kx_all (f : D) : ((exL12 f).filter fun _ => true).map kxD = [D.lst [D.int 0], D.lst [D.int 1], D.lst [D.int 2], D.lst [D.int 3], D.lst [D.int 4], D.lst [D.int 5], D.lst [D.int 7], D.lst [D.int 8], D.lst [D.int 9], D.lst [D.int 10], D.lst [D.int 11], D.lst [D.int 12]] := by
  unfold exL12
  rw [List.filter_eq_self.mpr (fun _ _ => rfl), List.map_map]
  have e : cls12.map (kxD ∘ fun c => D.exn c f) = (cls12.map (fun c => cls14.idxOf c)).map fun n => D.lst [.int (n : Nat)] := by
    rw [List.map_map]
    rfl
  rw [e, kx_map]
  rfl
def S__law_right : DSp := fun ds M R _ => ∃ (f : D), ds = [.lst (exL12 f), f] ∧ pureD f = true ∧ SS (.lst (List.replicate 12 f)) ∧ R (.bl true) M
theorem ok__law_right {P : Program} {w : World} {K : PySem.W.Frag} {mg : Str → Option Value} {base : Heap} {C f : Addr} {fd : FuncData} (T : Txt K mg) (F : FunD K "_law_right" "_law_right" (defArgs s__law_right) (defBody s__law_right) (defScope s__law_right) [] [] f fd) (h_sys : SysD K) (h__law_fields : CallOk P w K mg base C 1 "_law_fields" 1 S__law_fields []) (h__law_kinds : CallOk P w K mg base C 1 "_law_kinds" 1 S__law_kinds []) : FnG P w K mg base CX0 2 f fd ["_law_errors", "_law_wanted"] (spD ⟨K, C⟩ 2 S__law_right) := by
  have nd := sc__law_right.nd
  refine fn_okG 4 2 F sc__law_right (fun cdv A outer s H E hr hgu =>
      (qss_cons (qs_set (i := 2) nd (q_lst (qa_cons (q_lst (qa_cons qi qa_nil)) (qa_cons (q_lst (qa_cons qi qa_nil)) (qa_cons (q_lst (qa_cons qi qa_nil)) (qa_cons (q_lst (qa_cons qi qa_nil)) (qa_cons (q_lst (qa_cons qi qa_nil)) (qa_cons (q_lst (qa_cons qi qa_nil)) (qa_cons (q_lst (qa_cons qi qa_nil)) (qa_cons (q_lst (qa_cons qi qa_nil)) (qa_cons (q_lst (qa_cons qi qa_nil)) (qa_cons (q_lst (qa_cons qi qa_nil)) (qa_cons (q_lst (qa_cons qi qa_nil)) (qa_cons (q_lst (qa_cons qi qa_nil)) qa_nil))))))))))))))
      (qss_one (qs_ret (q_and (q_cmp (c_eq hr) (q_lc (own := [("_law_error", 3)]) nd (qi_list (qv 0)) (blkOk_by (own := [("_law_error", 3)]) (N := N__law_right) (sc := defScope s__law_right) (by decide +kernel)) (fun _ _ _ _ _ => (qgw_name (i := 3) nd)) (fun _ _ _ _ _ => qts_nil) (fun _ _ _ _ _ => (qc h__law_kinds hr (by decide) (qa_cons (qv 3) qa_nil)))) (qv 2)) (q_one (q_cmp (c_eq hr) (q_cb (b_reprSD h_sys hgu hr) rfl T.b_repr bb_repr (qa_cons (qc h__law_fields hr (by decide) (qa_cons (qv 0) qa_nil)) qa_nil)) (q_cb (b_reprSD h_sys hgu hr) rfl T.b_repr bb_repr (qa_cons (q_rep (q_lst (qa_cons (qv 1) qa_nil)) qi) qa_nil))))))))) ?_
  rintro ds M R - ⟨f, rfl, hp, hs, hR⟩
  walk_at "w"
  refine mf_list (fun _ => true) kxD (exL12 f) (fun F z => by walk_at "w"; exact z) (by show 12 < sizeLine; decide) (fun d hd _ => by obtain ⟨c, _, rfl⟩ := List.mem_map.mp hd; rfl) ?_ ?_
  · intro i d q acc P Q hd hq hP hQ
    obtain ⟨c, hc, rfl⟩ := List.mem_map.mp (List.mem_of_getElem? hd)
    walk_at "w"
    exact ⟨cls14.idxOf c, c, _, rfl, kx_at c hc, .inl ⟨f, rfl⟩, hP rfl⟩
  rw [kx_all]
  refine eqG_self rfl ?_
  walk_at "w"
  refine ⟨f, rfl, hp, ?_⟩
  obtain ⟨p, sp, tp⟩ := hs
  refine ⟨p, sp, by decide, by decide, p, sp, ?_⟩
  refine eqG_self (d := .str p.shown) tp ?_
  exact fin_pure hR
/-! ### _law_given_right -/
abbrev N__law_given_right : List Str := ["_law_given", "_law_named", "_law_placed", "_law_bare"]
theorem sc__law_given_right : FnScope N__law_given_right ["_law_given"] (defScope s__law_given_right) := ⟨rfl, rfl, rfl, by decide +kernel, rfl, by decide +kernel, by decide +kernel⟩
theorem shAll_rep (p : PyData) : ∀ n, PyData.shownAll (List.replicate n p) = List.replicate n p.shown
  | 0 => rfl
  | n + 1 => by
    show p.shown :: PyData.shownAll (List.replicate n p) = _
    rw [shAll_rep p n]
    rfl
theorem ss12 {d : D} {p : PyData} (e : toR d = some p) (h : p.showable = true) (l : p.shown.length ≤ 1000) (dp : p.depth ≤ 50) (ok : PyData.strOk p.shown = true) : SS (.lst (List.replicate 12 d)) := by
  have a1 : (Str.ofString "[").length = 1 := by decide +kernel
  have a3 : (Str.ofString "]").length = 1 := by decide +kernel
  have es : (PyData.list (List.replicate 12 p)).shown = PySem.textFrom 0 (Str.ofString "[") (List.replicate 12 p.shown) ++ Str.ofString "]" := by
    rw [← shAll_rep]
    simp only [PyData.shown]
    rfl
  have len := tf_len (n := 1000) (List.replicate 12 p.shown) 0 (Str.ofString "[") (fun t ht => by rw [List.eq_of_mem_replicate ht]; exact l)
  rw [List.length_replicate, a1] at len
  refine ⟨.list (List.replicate 12 p), ⟨?_, ?_, ?_, ?_⟩, ?_⟩
  · simp [toR, toRL, e, List.replicate]
  · simp [PyData.showable, PyData.showableAll, h, List.replicate]
  · rw [es]
    refine fit3k ?_
    rw [Str.length_append, a3]
    omega
  · simp only [PyData.depth, PyData.depthAll, List.replicate]
    omega
  · rw [es, okS_app, okS_of, tf_ok (List.replicate 12 p.shown) 0 (Str.ofString "[") (okS_of _) (fun t ht => by rw [List.eq_of_mem_replicate ht]; exact ok)]
    rfl
theorem ss_non : SS (.lst (List.replicate 12 .non)) := ss12 (p := .none) rfl rfl (by decide +kernel) (by decide) (by decide +kernel)
def S__law_given_right : DSp := fun ds M R _ => ∃ (f : D), ds = [f] ∧ pureD f = true ∧ SS (.lst (List.replicate 12 f)) ∧ R (.bl true) M
theorem ok__law_given_right {P : Program} {w : World} {K : PySem.W.Frag} {mg : Str → Option Value} {base : Heap} {C f : Addr} {fd : FuncData} (T : Txt K mg) (F : FunD K "_law_given_right" "_law_given_right" (defArgs s__law_given_right) (defBody s__law_given_right) (defScope s__law_given_right) [] [] f fd) (hv_InvalidList : ExV P w K mg base 1 "InvalidList") (hv_InvalidNumber : ExV P w K mg base 1 "InvalidNumber") (hv_InvalidRange : ExV P w K mg base 1 "InvalidRange") (hv_InvalidLine : ExV P w K mg base 1 "InvalidLine") (hv_UnknownName : ExV P w K mg base 1 "UnknownName") (hv_InvalidTest : ExV P w K mg base 1 "InvalidTest") (hv_InvalidRecipe : ExV P w K mg base 1 "InvalidRecipe") (hv_InvalidCode : ExV P w K mg base 1 "InvalidCode") (hv_TooNarrow : ExV P w K mg base 1 "TooNarrow") (hv_InvalidName : ExV P w K mg base 1 "InvalidName") (hv_TakenName : ExV P w K mg base 1 "TakenName") (hv_Overflow : ExV P w K mg base 1 "Overflow") (h__law_right : CallG P w K mg base C 2 "_law_right" 2 S__law_right) : FnG P w K mg base CX0 3 f fd ["_law_given"] (spD ⟨K, C⟩ 1 S__law_given_right) := by
  have nd := sc__law_given_right.nd
  refine fn_okG 4 1 F sc__law_given_right (fun cdv A outer s H E hr hgu =>
      (qss_cons (qs_set (i := 1) nd (q_lst (qa_cons (q_exnK hv_InvalidLine hr (by decide) (qk_cons (qv 0) qk_nil)) (qa_cons (q_exnK hv_InvalidRange hr (by decide) (qk_cons (qv 0) qk_nil)) (qa_cons (q_exnK hv_InvalidNumber hr (by decide) (qk_cons (qv 0) qk_nil)) (qa_cons (q_exnK hv_InvalidList hr (by decide) (qk_cons (qv 0) qk_nil)) qa_nil))))))
      (qss_cons (qs_set (i := 1) nd (q_add (qv 1) (q_lst (qa_cons (q_exnK hv_InvalidRecipe hr (by decide) (qk_cons (qv 0) qk_nil)) (qa_cons (q_exnK hv_InvalidTest hr (by decide) (qk_cons (qv 0) qk_nil)) (qa_cons (q_exnK hv_UnknownName hr (by decide) (qk_cons (qv 0) qk_nil)) qa_nil))))))
      (qss_cons (qs_set (i := 1) nd (q_add (qv 1) (q_lst (qa_cons (q_exnK hv_TakenName hr (by decide) (qk_cons (qv 0) qk_nil)) (qa_cons (q_exnK hv_InvalidName hr (by decide) (qk_cons (qv 0) qk_nil)) (qa_cons (q_exnK hv_TooNarrow hr (by decide) (qk_cons (qv 0) qk_nil)) (qa_cons (q_exnK hv_InvalidCode hr (by decide) (qk_cons (qv 0) qk_nil)) qa_nil)))))))
      (qss_cons (qs_set (i := 2) nd (q_lst (qa_cons (q_exn hv_InvalidLine hr (by decide) (qa_cons (qv 0) qa_nil)) (qa_cons (q_exn hv_InvalidRange hr (by decide) (qa_cons (qv 0) qa_nil)) (qa_cons (q_exn hv_InvalidNumber hr (by decide) (qa_cons (qv 0) qa_nil)) (qa_cons (q_exn hv_InvalidList hr (by decide) (qa_cons (qv 0) qa_nil)) (qa_cons (q_exn hv_InvalidRecipe hr (by decide) (qa_cons (qv 0) qa_nil)) qa_nil)))))))
      (qss_cons (qs_set (i := 2) nd (q_add (qv 2) (q_lst (qa_cons (q_exn hv_InvalidTest hr (by decide) (qa_cons (qv 0) qa_nil)) (qa_cons (q_exn hv_UnknownName hr (by decide) (qa_cons (qv 0) qa_nil)) (qa_cons (q_exn hv_TakenName hr (by decide) (qa_cons (qv 0) qa_nil)) (qa_cons (q_exn hv_InvalidName hr (by decide) (qa_cons (qv 0) qa_nil)) (qa_cons (q_exn hv_TooNarrow hr (by decide) (qa_cons (qv 0) qa_nil)) qa_nil))))))))
      (qss_cons (qs_set (i := 3) nd (q_lst (qa_cons (q_exn0 hv_InvalidLine hr (by decide)) (qa_cons (q_exn0 hv_InvalidRange hr (by decide)) (qa_cons (q_exn0 hv_InvalidNumber hr (by decide)) (qa_cons (q_exn0 hv_InvalidList hr (by decide)) (qa_cons (q_exn0 hv_InvalidRecipe hr (by decide)) (qa_cons (q_exn0 hv_InvalidTest hr (by decide)) qa_nil))))))))
      (qss_cons (qs_set (i := 3) nd (q_add (qv 3) (q_lst (qa_cons (q_exn0 hv_UnknownName hr (by decide)) (qa_cons (q_exn0 hv_TakenName hr (by decide)) (qa_cons (q_exn0 hv_InvalidName hr (by decide)) (qa_cons (q_exn0 hv_TooNarrow hr (by decide)) (qa_cons (q_exn0 hv_InvalidCode hr (by decide)) (qa_cons (q_exn0 hv_Overflow hr (by decide)) qa_nil)))))))))
      (qss_cons (qs_if (QW.qt (qw_or (qt_not (qt_val (qcG h__law_right hr (by decide) hgu (qa_cons (q_add (qv 1) (q_lst (qa_cons (q_exnK hv_Overflow hr (by decide) (qk_cons (qv 0) qk_nil)) qa_nil))) (qa_cons (qv 0) qa_nil))))) (qw_or1 (qt_not (qt_val (qcG h__law_right hr (by decide) hgu (qa_cons (qv 3) (qa_cons qn qa_nil))))))))
        (qss_one (qs_ret qb))
        qss_nil)
      (qss_one (qs_ret (qcG h__law_right hr (by decide) hgu (qa_cons (q_add (qv 2) (q_lst (qa_cons (q_exn hv_InvalidCode hr (by decide) (qa_cons (qv 0) qa_nil)) (qa_cons (q_exn hv_Overflow hr (by decide) (qa_cons (qv 0) qa_nil)) qa_nil)))) (qa_cons (qv 0) qa_nil)))))))))))))) ?_
  rintro ds M R - ⟨f, rfl, hp, hs, hR⟩
  walk_at "w"
  refine ⟨f, rfl, hp, hs, ?_⟩
  walk_at "w"
  refine ⟨.non, rfl, rfl, ss_non, ?_⟩
  walk_at "w"
  refine ⟨f, rfl, hp, hs, ?_⟩
  exact fin_pure hR
/-! ### _law_hash -/
abbrev N__law_hash : List Str := ["_law_seed", "_law_index", "_law_mixed"]
theorem sc__law_hash : FnScope N__law_hash ["_law_seed", "_law_index"] (defScope s__law_hash) := ⟨rfl, rfl, rfl, by decide +kernel, rfl, by decide +kernel, by decide +kernel⟩
def S__law_hash : DSp := fun ds M R _ => ∃ c k, ds = [.int c, .int k] ∧ 0 ≤ k ∧ k < 4611686018427387904 ∧ ∀ r : Int, R (.int r) M
theorem ok__law_hash {P : Program} {w : World} {K : PySem.W.Frag} {mg : Str → Option Value} {base : Heap} {C f : Addr} {fd : FuncData} (T : Txt K mg) (F : FunD K "_law_hash" "_law_hash" (defArgs s__law_hash) (defBody s__law_hash) (defScope s__law_hash) [] [] f fd)  : FnOk P w K mg base CX0 1 f fd ["_law_seed", "_law_index"] (spD ⟨K, C⟩ 2 S__law_hash) := by
  have nd := sc__law_hash.nd
  refine fn_ok 3 2 F sc__law_hash (fun cdv A outer s H E hr =>
      (qss_cons (qs_set (i := 2) nd (q_mod (q_ct b_int rfl T.b_int bb_int (qa_cons (q_add (q_add (q_add (q_mul (qv 0) qi) (q_mul (q_mul qi (qv 1)) (qv 1))) (qv 1)) qi) qa_nil)) qi))
      (qss_cons (qs_set (i := 2) nd (q_mod (q_ct b_int rfl T.b_int bb_int (qa_cons (q_add (q_mul (qv 2) (qv 2)) qi) qa_nil)) qi))
      (qss_one (qs_ret (q_mod (q_ct b_int rfl T.b_int bb_int (qa_cons (q_mul (qv 2) qi) qa_nil)) qi)))))) ?_
  rintro ds M R - ⟨c, k, rfl, h0, h1, hR⟩
  walk_at "v"
  have m2 : ∀ z : Int, Sm 64 (z % 2147483647) := fun z => sm64 (by omega) (by omega)
  refine ⟨mulR (by omega) (by omega), mulL (by omega) (by omega), mulR (by omega) (by omega), mul_okL (m2 _), mulR (by omega) (by omega), fin_pure (hR _)⟩
/-! ### _law_random -/
abbrev N__law_random : List Str := ["_law_generator_here", "_law_bound", "_law_drawn", "_law_part"]
theorem sc__law_random : FnScope N__law_random ["_law_generator_here", "_law_bound"] (defScope s__law_random) := ⟨rfl, rfl, rfl, by decide +kernel, rfl, by decide +kernel, by decide +kernel⟩
def S__law_random : DSp := fun ds M R _ => ∃ a n b m M0, ds = [.own a, .int n] ∧ M = mset M0 a m ∧ PurseOk b m ∧ b ≤ 1152921504606846976 ∧ 0 < n ∧ Sm 9000 n ∧ ∀ (d : Int) m', 0 ≤ d → d < n → PurseOk (b + 301) m' → R (.int d) (mset M0 a m')
theorem use_random {a : Addr} {n b : Int} {m : MO} {M0 : Mem} {R : DR} {X : DX} (hp : PurseOk b m) (hb : b ≤ 1152921504606846976) (hn : 0 < n) (hs : Sm 9000 n) (k : ∀ (d : Int) m', 0 ≤ d → d < n → PurseOk (b + 301) m' → R (.int d) (mset M0 a m')) : S__law_random [.own a, .int n] (mset M0 a m) R X := ⟨a, n, b, m, M0, rfl, rfl, hp, hb, hn, hs, k⟩
theorem ok__law_random {P : Program} {w : World} {K : PySem.W.Frag} {mg : Str → Option Value} {base : Heap} {C f : Addr} {fd : FuncData} (T : Txt K mg) (F : FunD K "_law_random" "_law_random" (defArgs s__law_random) (defBody s__law_random) (defScope s__law_random) [] [] f fd) (h__law_hash : CallOk P w K mg base C 1 "_law_hash" 2 S__law_hash []) : FnOk P w K mg base CX0 2 f fd ["_law_generator_here", "_law_bound"] (spD ⟨K, C⟩ 2 S__law_random) := by
  have nd := sc__law_random.nd
  refine fn_ok 4 2 F sc__law_random (fun cdv A outer s H E hr =>
      (qss_cons (qs_if (qt_cmp c_gt (q_ixC 0 (qv 0)) qi)
        (qss_cons (qs_set (i := 2) nd (q_mod (q_ct b_int rfl T.b_int bb_int (qa_cons (q_ixC 0 (qv 0)) qa_nil)) (qv 1)))
        (qss_cons (qs_asg (q_div (q_ixC 0 (qv 0)) (qv 1)) (qg_sub (qv 0) qi))
        (qss_one (qs_ret (qv 2)))))
        qss_nil)
      (qss_cons (qs_set (i := 2) nd qi)
      (qss_cons (qs_for (qi_rng1 T.b_range (qa_cons (q_add qi (q_div (q_bits (qv 1)) qi)) qa_nil)) (qg_name (i := 3) nd)
        (qss_cons (qs_asg (q_add (q_ixC 2 (qv 0)) qi) (qg_sub (qv 0) qi))
        (qss_one (qs_set (i := 2) nd (q_add (q_mul (qv 2) qi) (qc h__law_hash hr (by decide) (qa_cons (q_ixC 1 (qv 0)) (qa_cons (q_ixC 2 (qv 0)) qa_nil))))))))
      (qss_one (qs_ret (q_mod (q_ct b_int rfl T.b_int bb_int (qa_cons (qv 2) qa_nil)) (qv 1)))))))) ?_
  rintro ds _ R - ⟨a, n, b, m, M, rfl, rfl, ⟨g0, g1, g2, rfl, hg0, hg1⟩, hb, hn, hs, hR⟩
  have hbits := hs.bits
  walk_at "v"
  constructor
  · intro hpos
    refine ⟨hn, cd_ok hn hs (by omega), 0, rfl, ?_⟩
    exact fin_sw (hR _ _ (Int.emod_nonneg _ (by omega)) (Int.emod_lt_of_pos _ hn) ⟨_, _, _, rfl, hg0, by omega⟩)
  · intro hpos
    refine ⟨cdS (by omega) (by omega), by omega, by omega, fun i γ M' => ∃ num kk, γ = [some (.own a), some (.int n), some (.int num), kk] ∧ M' = mset M a (.lst [.int g0, .int g1, .int (g2 + i)]), ⟨0, none, rfl, ?_⟩, fun _ _ _ _ => trivial, ?_, ?_⟩
    · simp
    · rintro i d γ' M' ⟨num, kk, rfl, rfl⟩ hi
      obtain ⟨hi, rfl⟩ := (rngD_get _ _ _ _).mp hi
      walk_at "v"
      refine ⟨2, rfl, ?_⟩
      walk_at "v"
      refine ⟨mulR (by omega) (by omega), ?_⟩
      refine ⟨_, _, rfl, by omega, by omega, fun r => ?_⟩
      walk_at "v"
      refine ⟨_, _, rfl, ?_⟩
      have e : g2 + (i : Int) + 1 = g2 + ((i + 1 : Nat) : Int) := by omega
      rw [e]
    · rintro γ' M' ⟨num, kk, rfl, rfl⟩
      walk_at "v"
      rw [rngD_len]
      refine ⟨hn, fin_sw (hR _ _ (Int.emod_nonneg _ (by omega)) (Int.emod_lt_of_pos _ hn) ⟨_, _, _, rfl, by omega, by omega⟩)⟩
/-! ### _law_cell -/
abbrev N__law_cell : List Str := ["_law_script", "_law_index"]
theorem sc__law_cell : FnScope N__law_cell ["_law_script", "_law_index"] (defScope s__law_cell) := ⟨rfl, rfl, rfl, by decide +kernel, rfl, by decide +kernel, by decide +kernel⟩
def S__law_cell : DSp := fun ds M R _ => ∃ ns t, ds = [.scr ns, .int t] ∧ 0 ≤ t ∧ ∀ x : Int, R (.int x) M
theorem ok__law_cell {P : Program} {w : World} {K : PySem.W.Frag} {mg : Str → Option Value} {base : Heap} {C f : Addr} {fd : FuncData} (T : Txt K mg) (F : FunD K "_law_cell" "_law_cell" (defArgs s__law_cell) (defBody s__law_cell) (defScope s__law_cell) [] [] f fd)  : FnOk P w K mg base CX0 1 f fd ["_law_script", "_law_index"] (spD ⟨K, C⟩ 2 S__law_cell) := by
  have nd := sc__law_cell.nd
  refine fn_ok 2 2 F sc__law_cell (fun cdv A outer s H E hr =>
      (qss_cons (qs_if (qt_cmp c_lt (qv 1) (q_cb b_len rfl T.b_len bb_len (qa_cons (qv 0) qa_nil)))
        (qss_one (qs_ret (q_ix (qv 0) (qv 1))))
        qss_nil)
      (qss_one (qs_ret qi)))) ?_
  rintro ds M R - ⟨ns, t, rfl, ht, hR⟩
  walk_at "w"
  refine ⟨fun h => ?_, fun _ => fin_pure (hR 0)⟩
  obtain ⟨k, rfl⟩ := Int.eq_ofNat_of_zero_le ht
  rw [List.length_map] at h
  have hk : k < ns.length := by omega
  exact ⟨.int ns[k], at_int (List.getElem?_eq_getElem hk), fin_pure (hR _)⟩
/-! ### _law_generator -/
abbrev N__law_generator : List Str := ["_law_script", "_law_index", "_law_seed"]
theorem sc__law_generator : FnScope N__law_generator ["_law_script", "_law_index"] (defScope s__law_generator) := ⟨rfl, rfl, rfl, by decide +kernel, rfl, by decide +kernel, by decide +kernel⟩
def S__law_generator : DSp := fun ds M R _ => ∃ ns t, ds = [.scr ns, .int t] ∧ 0 ≤ t ∧ t ≤ 1000000 ∧ ∀ p m, M p = none → PurseOk (1000 * t) m → R (.own p) (mset M p m)
theorem ok__law_generator {P : Program} {w : World} {K : PySem.W.Frag} {mg : Str → Option Value} {base : Heap} {C f : Addr} {fd : FuncData} (T : Txt K mg) (F : FunD K "_law_generator" "_law_generator" (defArgs s__law_generator) (defBody s__law_generator) (defScope s__law_generator) [] [] f fd) (h__law_cell : CallOk P w K mg base C 1 "_law_cell" 2 S__law_cell []) : FnOk P w K mg base CX0 2 f fd ["_law_script", "_law_index"] (spD ⟨K, C⟩ 2 S__law_generator) := by
  have nd := sc__law_generator.nd
  refine fn_ok 3 2 F sc__law_generator (fun cdv A outer s H E hr =>
      (qss_cons (qs_set (i := 2) nd (qc h__law_cell hr (by decide) (qa_cons (qv 0) (qa_cons (qv 1) qa_nil))))
      (qss_one (qs_ret (q_lstO (qa_cons (q_mod (q_ct b_int rfl T.b_int bb_int (qa_cons (q_cb b_max2 rfl T.b_max bb_max (qa_cons (q_sub (qv 2) (q_pow qi qi)) (qa_cons qi qa_nil))) qa_nil)) (q_pow (q_pow qi qi) qi)) (qa_cons (q_mod (q_ct b_int rfl T.b_int bb_int (qa_cons (qv 2) qa_nil)) qi) (qa_cons (q_mul qi (qv 1)) qa_nil)))))))) ?_
  rintro ds M R - ⟨ns, t, rfl, h0, h1, hR⟩
  walk_at "w"
  refine ⟨ns, t, rfl, h0, fun x => ?_⟩
  walk_at "w"
  refine ⟨by decide +kernel, mulL (by omega) (by omega), fun p hp => fin_own (hR p _ hp ⟨_, _, _, rfl, by omega, by omega⟩)⟩
/-! ### law -/
abbrev N_law : List Str := ["_law_script", "_law_number", "_law_given"]
theorem sc_law : FnScope N_law ["_law_script"] (defScope s_law) := ⟨rfl, rfl, rfl, by decide +kernel, rfl, by decide +kernel, by decide +kernel⟩
def S_law : DSp := fun ds M R _ => ∃ ns, ds = [.scr ns] ∧ ∀ M', R (.bl true) M'
theorem law_true (ns : List Int) (_ : ns.length ≤ 63) (M : Mem) (R : DR) (X : DX) (h : ∀ M', R (.bl true) M') : S_law [.scr ns] M R X := ⟨ns, rfl, h⟩
def givL (n : Int) : List D := [.int n, .int (0 - n), .tup [.str "a", .str "b"], .tup [], .tup [.int 1, .int 2, .int 3], .lst [.int 1], .dct [] [], .str "a b", .str "", .bl true, .non, .dct [.inr "a"] [.int n]]
def okG (d : D) : Bool := pureD d && (match toR d with
  | some p => p.showable && (decide (p.shown.length ≤ 1000) && (decide (p.depth ≤ 50) && PyData.strOk p.shown))
  | none => false)
theorem okG_ok {d : D} (h : okG d = true) : pureD d = true ∧ SS (.lst (List.replicate 12 d)) := by
  unfold okG at h
  split at h
  · rename_i p e
    simp only [Bool.and_eq_true, decide_eq_true_eq] at h
    exact ⟨h.1, ss12 e h.2.1 h.2.2.1 h.2.2.2.1 h.2.2.2.2⟩
  · simp at h
theorem giv_c : [D.tup [.str "a", .str "b"], .tup [], .tup [.int 1, .int 2, .int 3], .lst [.int 1], .dct [] [], .str "a b", .str "", .bl true, .non].all okG = true := by decide +kernel
theorem ss_int {i : Int} (h : Sm 60 i) : SS (.lst (List.replicate 12 (.int i))) := by
  have l := len_int h (by decide)
  refine ss12 (p := .int i) rfl ?_ ?_ (Nat.zero_le _) (okS_of _)
  · show decide (i.natAbs.log2 < 1920) = true
    exact decide_eq_true (Nat.lt_of_lt_of_le (h.log (by decide)) (by decide))
  · show (Str.ofString (toString i)).length ≤ 1000
    omega
theorem ss_dct {i : Int} (h : Sm 60 i) : SS (.lst (List.replicate 12 (.dct [.inr "a"] [.int i]))) := by
  have l := len_int h (by decide)
  have es : (PyData.dict [(.str "a", .int i)]).shown = Str.ofString "{" ++ ((PyData.str "a").shown ++ Str.ofString ": " ++ Str.ofString (toString i)) ++ Str.ofString "}" := rfl
  have a1 : (Str.ofString "{").length = 1 := by decide +kernel
  have a2 : (Str.ofString ": ").length = 2 := by decide +kernel
  have a3 : (Str.ofString "}").length = 1 := by decide +kernel
  have a4 : (PyData.str "a").shown.length = 3 := by decide +kernel
  have a5 : PyData.strOk (PyData.str "a").shown = true := by decide +kernel
  refine ss12 (p := .dict [(.str "a", .int i)]) rfl ?_ ?_ ?_ ?_
  · have : decide (i.natAbs.log2 < 1920) = true := decide_eq_true (Nat.lt_of_lt_of_le (h.log (by decide)) (by decide))
    simp only [PyData.showable, PyData.showableKv]
    rw [this]
    rfl
  · rw [es]
    simp only [Str.length_append, a1, a2, a3, a4]
    omega
  · show 1 ≤ 50
    decide
  · rw [es]
    simp only [okS_app, okS_of, a5, Bool.and_self]
theorem giv_ok {n : Int} (h : Sm 60 n) : ∀ d ∈ givL n, pureD d = true ∧ SS (.lst (List.replicate 12 d)) := fun d hd => by
  have c := List.all_eq_true.mp giv_c
  simp only [givL, List.mem_cons, List.not_mem_nil, or_false] at hd
  rcases hd with rfl | rfl | rfl | rfl | rfl | rfl | rfl | rfl | rfl | rfl | rfl | rfl
  · exact ⟨rfl, ss_int h⟩
  · exact ⟨rfl, ss_int (by rw [Int.zero_sub]; exact h.neg)⟩
  · exact okG_ok (c _ (by simp))
  · exact okG_ok (c _ (by simp))
  · exact okG_ok (c _ (by simp))
  · exact okG_ok (c _ (by simp))
  · exact okG_ok (c _ (by simp))
  · exact okG_ok (c _ (by simp))
  · exact okG_ok (c _ (by simp))
  · exact okG_ok (c _ (by simp))
  · exact okG_ok (c _ (by simp))
  · exact ⟨rfl, ss_dct h⟩
theorem ok_law {P : Program} {w : World} {K : PySem.W.Frag} {mg : Str → Option Value} {base : Heap} {C f : Addr} {fd : FuncData} (T : Txt K mg) (F : FunD K "law" "law" (defArgs s_law) (defBody s_law) (defScope s_law) [] [] f fd) (h__law_random : CallOk P w K mg base C 2 "_law_random" 2 S__law_random []) (h__law_generator : CallOk P w K mg base C 2 "_law_generator" 2 S__law_generator []) (h__law_given_right : CallG P w K mg base C 3 "_law_given_right" 1 S__law_given_right) (h__law_kinds : CallOk P w K mg base C 1 "_law_kinds" 1 S__law_kinds []) (he0_NothingToUndo : ExK0 K mg "NothingToUndo") (he0_NotRising : ExK0 K mg "NotRising") : FnG P w K mg base CX0 4 f fd ["_law_script"] (spD ⟨K, C⟩ 1 S_law) := by
  have nd := sc_law.nd
  refine fn_okG 3 1 F sc_law (fun cdv A outer s H E hr hgu =>
      (qss_cons (qs_set (i := 1) nd (qc h__law_random hr (by decide) (qa_cons (qc h__law_generator hr (by decide) (qa_cons (qv 0) (qa_cons qi qa_nil))) (qa_cons (q_pow qi qi) qa_nil))))
      (qss_cons (qs_for (qi_list (q_lst (qa_cons (qv 1) (qa_cons (q_sub qi (qv 1)) (qa_cons (q_tup (qa_cons qs (qa_cons qs qa_nil))) (qa_cons (q_tup qa_nil) (qa_cons (q_tup (qa_cons qi (qa_cons qi (qa_cons qi qa_nil)))) (qa_cons (q_lst (qa_cons qi qa_nil)) (qa_cons q_dct0 (qa_cons qs (qa_cons qs (qa_cons qb (qa_cons qn (qa_cons (q_dct (qps_cons qs (qv 1) qps_nil)) qa_nil)))))))))))))) (qg_name (i := 2) nd)
        (qss_one (qs_if (qt_not (qt_val (qcG h__law_given_right hr (by decide) hgu (qa_cons (qv 2) qa_nil))))
          (qss_one (qs_ret qb))
          qss_nil)))
      (qss_one (qs_ret (q_and (q_cmp (c_eq hr) (qc h__law_kinds hr (by decide) (qa_cons (q_exn00 he0_NotRising) qa_nil)) (q_lst (qa_cons qi qa_nil))) (q_one (q_cmp (c_eq hr) (qc h__law_kinds hr (by decide) (qa_cons (q_exn00 he0_NothingToUndo) qa_nil)) (q_lst (qa_cons qi qa_nil)))))))))) ?_
  rintro ds M R - ⟨ns, rfl, hR⟩
  walk_at "w"
  refine ⟨ns, _, rfl, by omega, by omega, fun p m hp hm => ?_⟩
  walk_at "w"
  refine use_random hm (by omega) (by decide) (by decide +kernel) fun n m1 n0 n1 hm1 => ?_
  have sn : Sm 60 n := sm_of (by omega) (by omega)
  walk_at "w"
  refine vfor_list (givL n) (fun F z => by walk_at "w"; exact fun q hq => ⟨_, _, rfl, by decide, by decide, rfl, by rw [mdel_set hq]; exact z⟩) (fun k γ My => My = mset M p m1 ∧ ∃ y, γ = [some (.scr ns), some (.int n), y]) ⟨rfl, _, rfl⟩ ?_ ?_
  · rintro k d γ' My ⟨rfl, y, rfl⟩ hd
    obtain ⟨h1, h2⟩ := giv_ok sn d (List.mem_of_getElem? hd)
    walk_at "w"
    refine ⟨d, rfl, h1, h2, ?_⟩
    walk_at "w"
    exact ⟨_, rfl⟩
  rintro γ' My ⟨rfl, y, rfl⟩
  walk_at "w"
  refine ⟨6, "NotRising", _, rfl, rfl, .inr rfl, ?_⟩
  refine eqG_self rfl ?_
  walk_at "w"
  refine ⟨13, "NothingToUndo", _, rfl, rfl, .inr rfl, ?_⟩
  refine eqG_self rfl ?_
  exact fin_to M (Sub.set hp) (fun _ h => h) (hR _)
theorem facts {P : Program} {w : World} {K : PySem.W.Frag} {h : Heap} {mg : Str → Option Value} {f : Addr} (X : K.In h) (G : h.Ns mainGlobals mg) (hfa : mg ("law" : Str) = some (.ref f)) (hfile : P.main.file = ("/claim/cut.py" : Str)) (htop : (P.main.scope.names.lookup ("super" : Str)).isSome = false) (cc : Says4 exL faL fnL "/claim/cut.py" esL K) :
    ∃ fd : FuncData, (∀ (s : Shared) (v : Value), BindsTo s fd ⟨[v], []⟩ [("_law_script", v)]) ∧ ∀ base : Heap, K.In base → base.Ns mainGlobals mg → FnG P w K mg base CX0 4 f fd ["_law_script"] (spD ⟨K, 0⟩ 1 S_law) := by
  obtain ⟨c, ce0⟩ := cc.1.both
  have ce := (He.ba ce0).1
  unfold exL at ce
  obtain ⟨ce0, ce⟩ := He.ba ce
  obtain ⟨ce1, ce⟩ := He.ba ce
  obtain ⟨ce2, ce⟩ := He.ba ce
  obtain ⟨ce3, ce⟩ := He.ba ce
  obtain ⟨ce4, ce⟩ := He.ba ce
  obtain ⟨ce5, ce⟩ := He.ba ce
  obtain ⟨ce6, ce⟩ := He.ba ce
  obtain ⟨ce7, ce⟩ := He.ba ce
  obtain ⟨ce8, ce⟩ := He.ba ce
  obtain ⟨ce9, ce⟩ := He.ba ce
  obtain ⟨ce10, ce⟩ := He.ba ce
  obtain ⟨ce11, ce⟩ := He.ba ce
  obtain ⟨ce12, ce⟩ := He.ba ce
  obtain ⟨ce13, ce⟩ := He.ba ce
  obtain ⟨ce14, ce⟩ := He.ba ce
  obtain ⟨ce15, ce⟩ := He.ba ce
  have T : Txt K mg := ⟨He.free_ok X G (c.fact 9 (f := .free "ValueError") rfl), He.free_ok X G (c.fact 10 (f := .free "int") rfl), He.free_ok X G (c.fact 11 (f := .free "isinstance") rfl), He.free_ok X G (c.fact 12 (f := .free "len") rfl), He.free_ok X G (c.fact 13 (f := .free "max") rfl), He.free_ok X G (c.fact 14 (f := .free "range") rfl), He.free_ok X G (c.fact 15 (f := .free "repr") rfl), He.free_ok X G (c.fact 16 (f := .free "super") rfl)⟩
  obtain ⟨fd__law_fields, F__law_fields⟩ := c.def_ 0 rfl
  have G__law_fields := He.glo_ok X G (c.fact 0 (f := .glo "_law_fields") rfl)
  obtain ⟨fd__law_kinds, F__law_kinds⟩ := c.def_ 1 rfl
  have G__law_kinds := He.glo_ok X G (c.fact 1 (f := .glo "_law_kinds") rfl)
  obtain ⟨fd__law_right, F__law_right⟩ := c.def_ 2 rfl
  have G__law_right := He.glo_ok X G (c.fact 2 (f := .glo "_law_right") rfl)
  obtain ⟨fd__law_given_right, F__law_given_right⟩ := c.def_ 3 rfl
  have G__law_given_right := He.glo_ok X G (c.fact 3 (f := .glo "_law_given_right") rfl)
  obtain ⟨fd__law_hash, F__law_hash⟩ := c.def_ 4 rfl
  have G__law_hash := He.glo_ok X G (c.fact 4 (f := .glo "_law_hash") rfl)
  obtain ⟨fd__law_random, F__law_random⟩ := c.def_ 5 rfl
  have G__law_random := He.glo_ok X G (c.fact 5 (f := .glo "_law_random") rfl)
  obtain ⟨fd__law_cell, F__law_cell⟩ := c.def_ 6 rfl
  have G__law_cell := He.glo_ok X G (c.fact 6 (f := .glo "_law_cell") rfl)
  obtain ⟨fd__law_generator, F__law_generator⟩ := c.def_ 7 rfl
  have G__law_generator := He.glo_ok X G (c.fact 7 (f := .glo "_law_generator") rfl)
  obtain ⟨fd_law, F_law⟩ := c.def_ 8 rfl
  have G_law := He.glo_ok X G (c.fact 8 (f := .glo "law") rfl)
  have e := hfa.symm.trans G_law
  cases e
  have bl := FunD.bindsA (ps := ["_law_script"]) F_law fun _ _ _ _ _ _ us hl => match us, hl with | [_], _ => rfl
  refine ⟨fd_law, fun s v => bl s [v] rfl, fun base _ _ => ?_⟩
  have h_ex : ExAll K mg csL tsL := exAllB_ok (fun t ht => (List.mem_cons.mp ht).elim (fun e => by subst e; exact He.glo_ok X G (c.fact 18 (f := .glo "InvalidLine") rfl)) (fun ht => (fun t ht => (List.mem_cons.mp ht).elim (fun e => by subst e; exact He.glo_ok X G (c.fact 19 (f := .glo "InvalidRange") rfl)) (fun ht => (fun t ht => (List.mem_cons.mp ht).elim (fun e => by subst e; exact He.glo_ok X G (c.fact 20 (f := .glo "InvalidNumber") rfl)) (fun ht => (fun t ht => (List.mem_cons.mp ht).elim (fun e => by subst e; exact He.glo_ok X G (c.fact 21 (f := .glo "InvalidList") rfl)) (fun ht => (fun t ht => (List.mem_cons.mp ht).elim (fun e => by subst e; exact He.glo_ok X G (c.fact 22 (f := .glo "InvalidRecipe") rfl)) (fun ht => (fun t ht => (List.mem_cons.mp ht).elim (fun e => by subst e; exact He.glo_ok X G (c.fact 23 (f := .glo "InvalidTest") rfl)) (fun ht => (fun t ht => (List.mem_cons.mp ht).elim (fun e => by subst e; exact He.glo_ok X G (c.fact 24 (f := .glo "NotRising") rfl)) (fun ht => (fun t ht => (List.mem_cons.mp ht).elim (fun e => by subst e; exact He.glo_ok X G (c.fact 25 (f := .glo "UnknownName") rfl)) (fun ht => (fun t ht => (List.mem_cons.mp ht).elim (fun e => by subst e; exact He.glo_ok X G (c.fact 26 (f := .glo "TakenName") rfl)) (fun ht => (fun t ht => (List.mem_cons.mp ht).elim (fun e => by subst e; exact He.glo_ok X G (c.fact 27 (f := .glo "InvalidName") rfl)) (fun ht => (fun t ht => (List.mem_cons.mp ht).elim (fun e => by subst e; exact He.glo_ok X G (c.fact 28 (f := .glo "TooNarrow") rfl)) (fun ht => (fun t ht => (List.mem_cons.mp ht).elim (fun e => by subst e; exact He.glo_ok X G (c.fact 29 (f := .glo "InvalidCode") rfl)) (fun ht => (fun t ht => (List.mem_cons.mp ht).elim (fun e => by subst e; exact He.glo_ok X G (c.fact 30 (f := .glo "Overflow") rfl)) (fun ht => (fun t ht => (List.mem_cons.mp ht).elim (fun e => by subst e; exact He.glo_ok X G (c.fact 31 (f := .glo "NothingToUndo") rfl)) (fun ht => (fun t ht => (List.mem_cons.mp ht).elim (fun e => by subst e; exact He.glo_ok X G (c.fact 17 (f := .glo "FourTestsError") rfl)) (fun ht => (fun t ht => (List.not_mem_nil ht).elim) t ht)) t ht)) t ht)) t ht)) t ht)) t ht)) t ht)) t ht)) t ht)) t ht)) t ht)) t ht)) t ht)) t ht)) t ht)) ce0
  have h_sys : SysD K := sysB_ok ce1
  have hv_InvalidList : ExV P w K mg base 1 "InvalidList" := exv_of hfile htop T.b_super (He.glo_ok X G (c.fact 21 (f := .glo "InvalidList") rfl)) tx_InvalidList txv_InvalidList ce2 (cc.exc 0 (d := de_InvalidList) rfl).1 (cc.exc 0 (d := de_InvalidList) rfl).2
  have hv_InvalidNumber : ExV P w K mg base 1 "InvalidNumber" := exv_of hfile htop T.b_super (He.glo_ok X G (c.fact 20 (f := .glo "InvalidNumber") rfl)) tx_InvalidNumber txv_InvalidNumber ce3 (cc.exc 1 (d := de_InvalidNumber) rfl).1 (cc.exc 1 (d := de_InvalidNumber) rfl).2
  have hv_InvalidRange : ExV P w K mg base 1 "InvalidRange" := exv_of hfile htop T.b_super (He.glo_ok X G (c.fact 19 (f := .glo "InvalidRange") rfl)) tx_InvalidRange txv_InvalidRange ce4 (cc.exc 2 (d := de_InvalidRange) rfl).1 (cc.exc 2 (d := de_InvalidRange) rfl).2
  have hv_InvalidLine : ExV P w K mg base 1 "InvalidLine" := exv_of hfile htop T.b_super (He.glo_ok X G (c.fact 18 (f := .glo "InvalidLine") rfl)) tx_InvalidLine txv_InvalidLine ce5 (cc.exc 3 (d := de_InvalidLine) rfl).1 (cc.exc 3 (d := de_InvalidLine) rfl).2
  have hv_UnknownName : ExV P w K mg base 1 "UnknownName" := exv_of hfile htop T.b_super (He.glo_ok X G (c.fact 25 (f := .glo "UnknownName") rfl)) tx_UnknownName txv_UnknownName ce6 (cc.exc 4 (d := de_UnknownName) rfl).1 (cc.exc 4 (d := de_UnknownName) rfl).2
  have hv_InvalidTest : ExV P w K mg base 1 "InvalidTest" := exv_of hfile htop T.b_super (He.glo_ok X G (c.fact 23 (f := .glo "InvalidTest") rfl)) tx_InvalidTest txv_InvalidTest ce7 (cc.exc 5 (d := de_InvalidTest) rfl).1 (cc.exc 5 (d := de_InvalidTest) rfl).2
  have hv_InvalidRecipe : ExV P w K mg base 1 "InvalidRecipe" := exv_of hfile htop T.b_super (He.glo_ok X G (c.fact 22 (f := .glo "InvalidRecipe") rfl)) tx_InvalidRecipe txv_InvalidRecipe ce8 (cc.exc 6 (d := de_InvalidRecipe) rfl).1 (cc.exc 6 (d := de_InvalidRecipe) rfl).2
  have hv_InvalidCode : ExV P w K mg base 1 "InvalidCode" := exv_of hfile htop T.b_super (He.glo_ok X G (c.fact 29 (f := .glo "InvalidCode") rfl)) tx_InvalidCode txv_InvalidCode ce9 (cc.exc 7 (d := de_InvalidCode) rfl).1 (cc.exc 7 (d := de_InvalidCode) rfl).2
  have hv_TooNarrow : ExV P w K mg base 1 "TooNarrow" := exv_of hfile htop T.b_super (He.glo_ok X G (c.fact 28 (f := .glo "TooNarrow") rfl)) tx_TooNarrow txv_TooNarrow ce10 (cc.exc 8 (d := de_TooNarrow) rfl).1 (cc.exc 8 (d := de_TooNarrow) rfl).2
  have hv_InvalidName : ExV P w K mg base 1 "InvalidName" := exv_of hfile htop T.b_super (He.glo_ok X G (c.fact 27 (f := .glo "InvalidName") rfl)) tx_InvalidName txv_InvalidName ce11 (cc.exc 9 (d := de_InvalidName) rfl).1 (cc.exc 9 (d := de_InvalidName) rfl).2
  have hv_TakenName : ExV P w K mg base 1 "TakenName" := exv_of hfile htop T.b_super (He.glo_ok X G (c.fact 26 (f := .glo "TakenName") rfl)) tx_TakenName txv_TakenName ce12 (cc.exc 10 (d := de_TakenName) rfl).1 (cc.exc 10 (d := de_TakenName) rfl).2
  have hv_Overflow : ExV P w K mg base 1 "Overflow" := exv_of hfile htop T.b_super (He.glo_ok X G (c.fact 30 (f := .glo "Overflow") rfl)) tx_Overflow txv_Overflow ce13 (cc.exc 11 (d := de_Overflow) rfl).1 (cc.exc 11 (d := de_Overflow) rfl).2
  have he0_NothingToUndo : ExK0 K mg "NothingToUndo" := exk0B_ok (He.glo_ok X G (c.fact 31 (f := .glo "NothingToUndo") rfl)) ce14
  have he0_NotRising : ExK0 K mg "NotRising" := exk0B_ok (He.glo_ok X G (c.fact 24 (f := .glo "NotRising") rfl)) ce15
  have k__law_fields : FnOk P w K mg base CX0 1 _ fd__law_fields ["_law_errors"] (spD ⟨K, 0⟩ 1 S__law_fields) := ok__law_fields T F__law_fields h_ex
  have h__law_fields : CallOk P w K mg base 0 1 "_law_fields" 1 S__law_fields [] := call_all G__law_fields F__law_fields k__law_fields (fun _ _ _ _ _ _ us hl => match us, hl with | [_], _ => rfl)
  have k__law_kinds : FnOk P w K mg base CX0 1 _ fd__law_kinds ["_law_error"] (spD ⟨K, 0⟩ 1 S__law_kinds) := ok__law_kinds T F__law_kinds h_ex
  have h__law_kinds : CallOk P w K mg base 0 1 "_law_kinds" 1 S__law_kinds [] := call_all G__law_kinds F__law_kinds k__law_kinds (fun _ _ _ _ _ _ us hl => match us, hl with | [_], _ => rfl)
  have k__law_right : FnG P w K mg base CX0 2 _ fd__law_right ["_law_errors", "_law_wanted"] (spD ⟨K, 0⟩ 2 S__law_right) := ok__law_right T F__law_right h_sys h__law_fields h__law_kinds
  have h__law_right : CallG P w K mg base 0 2 "_law_right" 2 S__law_right := callG_all G__law_right F__law_right k__law_right (fun _ _ _ _ _ _ us hl => match us, hl with | [_, _], _ => rfl)
  have k__law_given_right : FnG P w K mg base CX0 3 _ fd__law_given_right ["_law_given"] (spD ⟨K, 0⟩ 1 S__law_given_right) := ok__law_given_right T F__law_given_right hv_InvalidList hv_InvalidNumber hv_InvalidRange hv_InvalidLine hv_UnknownName hv_InvalidTest hv_InvalidRecipe hv_InvalidCode hv_TooNarrow hv_InvalidName hv_TakenName hv_Overflow h__law_right
  have h__law_given_right : CallG P w K mg base 0 3 "_law_given_right" 1 S__law_given_right := callG_all G__law_given_right F__law_given_right k__law_given_right (fun _ _ _ _ _ _ us hl => match us, hl with | [_], _ => rfl)
  have k__law_hash : FnOk P w K mg base CX0 1 _ fd__law_hash ["_law_seed", "_law_index"] (spD ⟨K, 0⟩ 2 S__law_hash) := ok__law_hash T F__law_hash 
  have h__law_hash : CallOk P w K mg base 0 1 "_law_hash" 2 S__law_hash [] := call_all G__law_hash F__law_hash k__law_hash (fun _ _ _ _ _ _ us hl => match us, hl with | [_, _], _ => rfl)
  have k__law_random : FnOk P w K mg base CX0 2 _ fd__law_random ["_law_generator_here", "_law_bound"] (spD ⟨K, 0⟩ 2 S__law_random) := ok__law_random T F__law_random h__law_hash
  have h__law_random : CallOk P w K mg base 0 2 "_law_random" 2 S__law_random [] := call_all G__law_random F__law_random k__law_random (fun _ _ _ _ _ _ us hl => match us, hl with | [_, _], _ => rfl)
  have k__law_cell : FnOk P w K mg base CX0 1 _ fd__law_cell ["_law_script", "_law_index"] (spD ⟨K, 0⟩ 2 S__law_cell) := ok__law_cell T F__law_cell 
  have h__law_cell : CallOk P w K mg base 0 1 "_law_cell" 2 S__law_cell [] := call_all G__law_cell F__law_cell k__law_cell (fun _ _ _ _ _ _ us hl => match us, hl with | [_, _], _ => rfl)
  have k__law_generator : FnOk P w K mg base CX0 2 _ fd__law_generator ["_law_script", "_law_index"] (spD ⟨K, 0⟩ 2 S__law_generator) := ok__law_generator T F__law_generator h__law_cell
  have h__law_generator : CallOk P w K mg base 0 2 "_law_generator" 2 S__law_generator [] := call_all G__law_generator F__law_generator k__law_generator (fun _ _ _ _ _ _ us hl => match us, hl with | [_, _], _ => rfl)
  have k_law : FnG P w K mg base CX0 4 _ fd_law ["_law_script"] (spD ⟨K, 0⟩ 1 S_law) := ok_law T F_law h__law_random h__law_generator h__law_given_right h__law_kinds he0_NothingToUndo he0_NotRising
  exact k_law
end K01
open PySem PySem.W PySem.Calls PyProof.Rows
set_option maxRecDepth 100000 in
set_option maxHeartbeats 0 in
theorem PySem.Challenge.cw_fourtests_k01_errors_holds : PySem.Challenge.rw_fourtests_k01_errors.Holds := by
  w_on; o_law
  refine HandSHeadRun.head_any (r := OpenLaw.row PySem.Challenge.rw_fourtests_k01_errors) (q := view (OpenLaw.row PySem.Challenge.rw_fourtests_k01_errors).prog [25]) (H := K01.hk) (ob := K01.ob) (M := 20000) (loose := K01.names) (d := HandSHeadRun.topDef (OpenLaw.row PySem.Challenge.rw_fourtests_k01_errors).prog 25) (kwd := []) K01.ob_eq
    (by kernel_rfl) (fun s => by kernel_rfl) K01.run (by kernel_rfl) (by kernel_rfl) (by kernel_rfl) (by rfl) (by first | assumption | decide +kernel) (by decide +kernel) ⟨rfl, rfl, rfl, rfl, rfl, by decide +kernel⟩ ?hw ?hc
  case hw => w_witness2
  case hc =>
    refine L2.walk_ofG (l := PySem.Challenge.rw_fourtests_k01_errors) (n := 63) (k := 4) (x := "_law_script") rfl (by decide) (by kernel_rfl) ⟨rfl, by decide, by decide⟩ ?F
    intro w mg fa h Y G hmg0
    obtain ⟨K, KX, c⟩ := Y
    have hmg : mg ("law" : PySem.Str) = some (.ref fa) := by
      have e : (HandSHeadRun.topDef (OpenLaw.row PySem.Challenge.rw_fourtests_k01_errors).prog 25).name = ("law" : PySem.Str) := by kernel_rfl
      rw [← e]
      exact hmg0
    obtain ⟨fd, hb, hF⟩ := K01.facts (P := (PySem.Challenge.rw_fourtests_k01_errors).prog) (w := w) KX G hmg (by rfl) (by first | rfl | decide +kernel | kernel_rfl) c
    exact ⟨K, fd, Dl.spD ⟨K, 0⟩ 1 K01.S_law, KX, hb, fun H a ns hl ho hS => Dl.law_start K01.law_true H a ns hl ho hS, hF⟩
