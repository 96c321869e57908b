import PyProof.Rows.All
import Wide.All
import OpenK.AllK
import Wide.FinOn
import KE.KStateDown
import HandS.ForMost
import HandS.ForExc
import HandS.Wide
import HandS.WideBits
import HandS.Defaults
import HandS.IsInst
import HandS.Conv
import HandS.Head0
import HandS.Head1
import HandS.Head2
import HandS.HeadEnd
import HandS.HeadHook1
import HandS.HeadHook2
import HandS.HeadNt
import HandS.Style
import HandS.Iter
import HandS.Deep
import HandS.Property
import HandS.Star
import HandS.ClsMeth
import HandS.More
import HandS.OwnEq
import HandS.NoneIn
import HandS.SetFor
import HandS.Strs
import KE.KOpsOwn
import HandS.Exc
import HandS.ExcInit
import HandS.ExcIs
import HandS.ExcField
import HandS.RaiseMore
import KE.KExcSuper
import PyProof.ReprRoads
import HandS.Flow
import HandS.MakeKwOnly
import HandS.TupAny
import HandS.TupMul
import HandS.FStr
import HandS.Text
import HandS.DictComp
import HandS.ExcValue
import PySem.Challenge.RW_fourtests_k33_pieces_refused
set_option Elab.async false
set_option linter.all false
set_option maxRecDepth 100000
set_option maxHeartbeats 4000000
namespace Dl
open PySem L2
inductive D where
  | non | bl (b : Bool) | int (i : Int) | str (x : Str)
  | tup (xs : List D) | lst (xs : List D)
  | scr (ns : List Int)
  | ln (t p o : Int)
  | own (a : Addr)
  | exn (c : Str) (f : D)
  | exn0 (c : Str)
  | dct (ks : List Key) (ds : List D)
  | cls
inductive MO where
  | lst (xs : List D)
  | obj (c : Str) (ds : List D)
  | dct (ks : List Key) (ds : List D)
  | lck (o : Obj) (vs : List V) (ks : List Key) (ds : List D)
  | lso (ds : List D)
abbrev Mem := Addr → Option MO
def mset (M : Mem) (a : Addr) (m : MO) : Mem := fun b => if b = a then some m else M b
def mdel (M : Mem) (a : Addr) : Mem := fun b => if b = a then none else M b
theorem mset_same {M : Mem} {a : Addr} {m : MO} : mset M a m a = some m := by unfold mset; rw [if_pos rfl]
theorem mset_ne {M : Mem} {a b : Addr} {m : MO} (h : b ≠ a) : mset M a m b = M b := by unfold mset; rw [if_neg h]
theorem mset_set {M : Mem} {a : Addr} {m n : MO} : mset (mset M a m) a n = mset M a n := by funext b; unfold mset; split <;> rfl
theorem mset_comm {M : Mem} {a b : Addr} {m n : MO} (h : a ≠ b) : mset (mset M a m) b n = mset (mset M b n) a m := by
  funext c; unfold mset
  by_cases h1 : c = b
  · subst h1; rw [if_pos rfl, if_neg (Ne.symm h), if_pos rfl]
  · rw [if_neg h1]; by_cases h2 : c = a
    · rw [if_pos h2, if_pos h2]
    · rw [if_neg h2, if_neg h2, if_neg h1]
structure Gx where
  K : PySem.W.Frag
  C : Addr
def KL (K : PySem.W.Frag) (a : Addr) (xs : List V) : Prop :=
  ∃ (o : Obj) (its : Array Value) (n : Nat), K.lookup a = some o ∧ o.cls = .type "list" ∧ o.dict = none ∧ o.data = .seq its n ∧ its.size ≤ sizeLine ∧ Vals xs its.toList
def fLine (q : Addr) : List (Str × V) := [("parts", .ref q)]
def exH (C : Addr) (d : Option Addr) (a : Addr) : HO := .ext fun h => ∃ (oe : Obj) (vs : Array Value), h.get? a = some oe ∧ Zc (.ref C) d oe ∧ oe.data = .fields vs
def fldN (c : Str) : Str := if c = "UnknownName" ∨ c = "TakenName" ∨ c = "InvalidName" then "name" else if c = "TooNarrow" then "bits" else if c = "InvalidCode" ∨ c = "Overflow" then "row" else "value"
mutual
def Is (G : Gx) (M : Mem) (H : Hp) : D → V → Prop
  | .non, v => v = .non
  | .bl b, v => v = .bl b
  | .int i, v => v = .int i
  | .str x, v => v = .str x
  | .tup ds, v => ∃ a xs, v = .ref a ∧ M a = none ∧ H a = some (.tup xs) ∧ IsL G M H ds xs
  | .lst ds, v => ∃ a xs, v = .ref a ∧ M a = none ∧ H a = some (.lst xs) ∧ IsL G M H ds xs
  | .scr ns, v => ∃ a, v = .ref a ∧ ((M a = none ∧ ∃ o, H a = some (.frz o (.lst (ns.map V.int)))) ∨ KL G.K a (ns.map V.int))
  | .ln t p o, v => ∃ a dx q, v = .ref a ∧ M a = none ∧ H a = some (.ins G.C dx (fLine q)) ∧ M q = none ∧ H q = some (.tup [.int t, .int p, .int o])
  | .own a, v => v = .ref a ∧ (M a).isSome = true
  | .exn c f, v => ∃ a dd u, v = .ref a ∧ M a = none ∧ H a = some (exH (He.ga G.K c) (some dd) a) ∧ M dd = none ∧ H dd = some (.xd [(fldN c, u)]) ∧ Is G M H f u
  | .exn0 c, v => ∃ a, v = .ref a ∧ M a = none ∧ H a = some (exH (He.ga G.K c) none a)
  | .dct ks ds, v => ∃ a xs, v = .ref a ∧ M a = none ∧ H a = some (.dK (ks.zip xs)) ∧ ks.length = ds.length ∧ IsL G M H ds xs
  | .cls, v => v = .ref G.C
def IsL (G : Gx) (M : Mem) (H : Hp) : List D → List V → Prop
  | [], [] => True
  | d :: ds, x :: xs => Is G M H d x ∧ IsL G M H ds xs
  | _, _ => False
end
mutual
def pureD : D → Bool
  | .tup ds => pureL ds
  | .lst ds => pureL ds
  | .own _ => false
  | .exn _ f => pureD f
  | .dct _ ds => pureL ds
  | _ => true
def pureL : List D → Bool
  | [] => true
  | d :: ds => pureD d && pureL ds
end
def FIs (G : Gx) (M : Mem) (H : Hp) : D → V → Prop
  | .own b, v => v = .ref b
  | d, v => pureD d = true ∧ Is G M H d v
def FIsL (G : Gx) (M : Mem) (H : Hp) : List D → List V → Prop
  | [], [] => True
  | d :: ds, v :: vs => FIs G M H d v ∧ FIsL G M H ds vs
  | _, _ => False
def clsF (c : Str) : List Str := if c = "Writer" then ["given", "rows", "ends", "needed", "fits"] else if c = "Library" then ["kept", "steps"] else []
def MIs (G : Gx) (M : Mem) (H : Hp) (a : Addr) : MO → Prop
  | .lst ds => pureL ds = true ∧ ∃ xs, H a = some (.lst xs) ∧ IsL G M H ds xs
  | .obj c ds => ds.length ≤ (clsF c).length ∧ ∃ dx vs, H a = some (.ins (He.ga G.K c) dx ((clsF c).zip vs)) ∧ FIsL G M H ds vs
  | .dct ks ds => pureL ds = true ∧ ks.length = ds.length ∧ ∃ xs, H a = some (.dK (ks.zip xs)) ∧ IsL G M H ds xs
  | .lck o xs ks ds => pureL ds = true ∧ ks.length = ds.length ∧ H a = some (.frz o (.dK (ks.zip xs))) ∧ IsL G M H ds xs
  | .lso ds => ∃ xs, H a = some (.lst xs) ∧ FIsL G M H ds xs
def Own (G : Gx) (M : Mem) (H : Hp) : Prop := ∀ a m, M a = some m → MIs G M H a m
structure Ext (M M' : Mem) (H H' : Hp) : Prop where
  st : ∀ a o, M a = none → H a = some o → H' a = some o ∧ M' a = none
  ow : ∀ a, (M a).isSome = true → (M' a).isSome = true
theorem Ext.refl {M : Mem} {H : Hp} : Ext M M H H := ⟨fun _ _ m h => ⟨h, m⟩, fun _ h => h⟩
theorem Ext.trans {M M1 M2 : Mem} {H H1 H2 : Hp} (a : Ext M M1 H H1) (b : Ext M1 M2 H1 H2) : Ext M M2 H H2 :=
  ⟨fun c o m h => let ⟨h1, m1⟩ := a.st c o m h; b.st c o m1 h1, fun c h => b.ow c (a.ow c h)⟩
theorem Ext.new {M : Mem} {H : Hp} {p : Addr} {o : HO} (h : H p = none) : Ext M M H (upd H p o) :=
  ⟨fun a u m e => ⟨by rw [upd_ne (ne_of_none e h)]; exact e, m⟩, fun _ h => h⟩
theorem Ext.newOwn {M : Mem} {H : Hp} {p : Addr} {o : HO} {m : MO} (h : H p = none) : Ext M (mset M p m) H (upd H p o) :=
  ⟨fun a u mm e => ⟨by rw [upd_ne (ne_of_none e h)]; exact e, by rw [mset_ne (ne_of_none e h)]; exact mm⟩, fun a ha => by
    unfold mset; split
    · rfl
    · exact ha⟩
theorem Ext.put {M : Mem} {H : Hp} {p : Addr} {o : HO} {m : MO} (h : (M p).isSome = true) : Ext M (mset M p m) H (upd H p o) :=
  ⟨fun a u mm e => by
    have ne : a ≠ p := fun z => by rw [z] at mm; rw [mm] at h; cases h
    exact ⟨by rw [upd_ne ne]; exact e, by rw [mset_ne ne]; exact mm⟩, fun a ha => by
    unfold mset; split
    · rfl
    · exact ha⟩
mutual
theorem Is.ext {G : Gx} {M M' : Mem} {H H' : Hp} (x : Ext M M' H H') : ∀ (d : D) (v : V), Is G M H d v → Is G M' H' d v
  | .non, _, h => h
  | .bl _, _, h => h
  | .int _, _, h => h
  | .str _, _, h => h
  | .tup ds, _, h => by
    unfold Is at h ⊢
    obtain ⟨a, xs, e, m, ha, hl⟩ := h
    exact ⟨a, xs, e, (x.st a _ m ha).2, (x.st a _ m ha).1, IsL.ext x ds xs hl⟩
  | .lst ds, _, h => by
    unfold Is at h ⊢
    obtain ⟨a, xs, e, m, ha, hl⟩ := h
    exact ⟨a, xs, e, (x.st a _ m ha).2, (x.st a _ m ha).1, IsL.ext x ds xs hl⟩
  | .scr ns, _, h => by
    unfold Is at h ⊢
    obtain ⟨a, e, h⟩ := h
    rcases h with ⟨m, o, ha⟩ | h
    · exact ⟨a, e, .inl ⟨(x.st a _ m ha).2, o, (x.st a _ m ha).1⟩⟩
    · exact ⟨a, e, .inr h⟩
  | .ln t p o, _, h => by
    unfold Is at h ⊢
    obtain ⟨a, dx, q, e, m, ha, mq, hq⟩ := h
    exact ⟨a, dx, q, e, (x.st a _ m ha).2, (x.st a _ m ha).1, (x.st q _ mq hq).2, (x.st q _ mq hq).1⟩
  | .own a, _, h => by
    unfold Is at h ⊢
    exact ⟨h.1, x.ow a h.2⟩
  | .exn c f, _, h => by
    unfold Is at h ⊢
    obtain ⟨a, dd, u, e, m, ha, md, hd, hf⟩ := h
    exact ⟨a, dd, u, e, (x.st a _ m ha).2, (x.st a _ m ha).1, (x.st dd _ md hd).2, (x.st dd _ md hd).1, Is.ext x f u hf⟩
  | .cls, _, h => by
    unfold Is at h ⊢
    exact h
  | .exn0 c, _, h => by
    unfold Is at h ⊢
    obtain ⟨a, e, m, ha⟩ := h
    exact ⟨a, e, (x.st a _ m ha).2, (x.st a _ m ha).1⟩
  | .dct ks ds, _, h => by
    unfold Is at h ⊢
    obtain ⟨a, xs, e, m, ha, hn, hl⟩ := h
    exact ⟨a, xs, e, (x.st a _ m ha).2, (x.st a _ m ha).1, hn, IsL.ext x ds xs hl⟩
theorem IsL.ext {G : Gx} {M M' : Mem} {H H' : Hp} (x : Ext M M' H H') : ∀ (ds : List D) (vs : List V), IsL G M H ds vs → IsL G M' H' ds vs
  | [], [], _ => by unfold IsL; trivial
  | [], _ :: _, h => by unfold IsL at h; exact h.elim
  | _ :: _, [], h => by unfold IsL at h; exact h.elim
  | d :: ds, v :: vs, h => by
    unfold IsL at h ⊢
    exact ⟨Is.ext x d v h.1, IsL.ext x ds vs h.2⟩
end
theorem IsL.nil {G : Gx} {M : Mem} {H : Hp} : IsL G M H [] [] := by unfold IsL; trivial
theorem IsL.cons {G : Gx} {M : Mem} {H : Hp} {d : D} {v : V} {ds : List D} {vs : List V} (h : Is G M H d v) (t : IsL G M H ds vs) : IsL G M H (d :: ds) (v :: vs) := by unfold IsL; exact ⟨h, t⟩
theorem IsL.len {G : Gx} {M : Mem} {H : Hp} : ∀ {ds : List D} {vs : List V}, IsL G M H ds vs → ds.length = vs.length
  | [], [], _ => rfl
  | [], _ :: _, h => by unfold IsL at h; exact h.elim
  | _ :: _, [], h => by unfold IsL at h; exact h.elim
  | _ :: ds, _ :: vs, h => by unfold IsL at h; exact congrArg Nat.succ (IsL.len h.2)
theorem IsL.get {G : Gx} {M : Mem} {H : Hp} : ∀ {ds : List D} {vs : List V} {i : Nat} {d : D}, IsL G M H ds vs → ds[i]? = some d → ∃ v, vs[i]? = some v ∧ Is G M H d v
  | [], _, _, _, _, e => by simp at e
  | _ :: _, [], _, _, h, _ => by unfold IsL at h; exact h.elim
  | d :: ds, v :: vs, 0, _, h, e => by unfold IsL at h; simp at e; subst e; exact ⟨v, rfl, h.1⟩
  | _ :: ds, v :: vs, i + 1, d, h, e => by
    unfold IsL at h
    obtain ⟨u, h1, h2⟩ := IsL.get (i := i) (d := d) h.2 (by simpa using e)
    exact ⟨u, by simpa using h1, h2⟩
theorem IsL.set {G : Gx} {M : Mem} {H : Hp} : ∀ {ds : List D} {vs : List V} {i : Nat} {d : D} {v : V}, IsL G M H ds vs → Is G M H d v → IsL G M H (ds.set i d) (vs.set i v)
  | [], [], _, _, _, _, _ => IsL.nil
  | [], _ :: _, _, _, _, h, _ => by unfold IsL at h; exact h.elim
  | _ :: _, [], _, _, _, h, _ => by unfold IsL at h; exact h.elim
  | _ :: ds, _ :: vs, 0, _, _, h, e => by unfold IsL at h; exact IsL.cons e h.2
  | _ :: ds, _ :: vs, i + 1, d, v, h, e => by unfold IsL at h; exact IsL.cons h.1 (IsL.set (i := i) h.2 e)
theorem IsL.append {G : Gx} {M : Mem} {H : Hp} : ∀ {ds es : List D} {vs us : List V}, IsL G M H ds vs → IsL G M H es us → IsL G M H (ds ++ es) (vs ++ us)
  | [], _, [], _, _, h => h
  | [], _, _ :: _, _, h, _ => by unfold IsL at h; exact h.elim
  | _ :: _, _, [], _, h, _ => by unfold IsL at h; exact h.elim
  | _ :: ds, _, _ :: vs, _, h, g => by unfold IsL at h; exact IsL.cons h.1 (IsL.append h.2 g)
theorem IsL.take {G : Gx} {M : Mem} {H : Hp} : ∀ {ds : List D} {vs : List V} (n : Nat), IsL G M H ds vs → IsL G M H (ds.take n) (vs.take n)
  | _, _, 0, _ => by simp only [List.take_zero]; exact IsL.nil
  | [], [], _ + 1, _ => IsL.nil
  | [], _ :: _, _, h => by unfold IsL at h; exact h.elim
  | _ :: _, [], _, h => by unfold IsL at h; exact h.elim
  | _ :: ds, _ :: vs, n + 1, h => by unfold IsL at h; exact IsL.cons h.1 (IsL.take n h.2)
theorem IsL.drop {G : Gx} {M : Mem} {H : Hp} : ∀ {ds : List D} {vs : List V} (n : Nat), IsL G M H ds vs → IsL G M H (ds.drop n) (vs.drop n)
  | _, _, 0, h => h
  | [], [], _ + 1, _ => IsL.nil
  | [], _ :: _, _, h => by unfold IsL at h; exact h.elim
  | _ :: _, [], _, h => by unfold IsL at h; exact h.elim
  | _ :: ds, _ :: vs, n + 1, h => by unfold IsL at h; exact IsL.drop n h.2
theorem is_int {G : Gx} {M : Mem} {H : Hp} {i : Int} : Is G M H (.int i) (.int i) := by unfold Is; rfl
theorem is_bl {G : Gx} {M : Mem} {H : Hp} {i : Bool} : Is G M H (.bl i) (.bl i) := by unfold Is; rfl
theorem is_str {G : Gx} {M : Mem} {H : Hp} {i : Str} : Is G M H (.str i) (.str i) := by unfold Is; rfl
theorem is_non {G : Gx} {M : Mem} {H : Hp} : Is G M H .non .non := by unfold Is; rfl
theorem FIs.ext {G : Gx} {M M' : Mem} {H H' : Hp} (x : Ext M M' H H') (d : D) (v : V) (h : FIs G M H d v) : FIs G M' H' d v := by
  cases d with
  | own b => exact h
  | _ => exact ⟨h.1, Is.ext x _ _ h.2⟩
theorem FIsL.ext {G : Gx} {M M' : Mem} {H H' : Hp} (x : Ext M M' H H') : ∀ (ds : List D) (vs : List V), FIsL G M H ds vs → FIsL G M' H' ds vs
  | [], [], _ => trivial
  | [], _ :: _, h => h.elim
  | _ :: _, [], h => h.elim
  | d :: ds, v :: vs, h => ⟨FIs.ext x d v h.1, FIsL.ext x ds vs h.2⟩
theorem MIs.ext {G : Gx} {M M' : Mem} {H H' : Hp} {a : Addr} (x : Ext M M' H H') (k : H' a = H a) : ∀ (m : MO), MIs G M H a m → MIs G M' H' a m
  | .lst ds, ⟨pu, xs, h1, h2⟩ => ⟨pu, xs, by rw [k]; exact h1, IsL.ext x ds xs h2⟩
  | .obj _ ds, ⟨hl, dx, vs, h1, h2⟩ => ⟨hl, dx, vs, by rw [k]; exact h1, FIsL.ext x ds vs h2⟩
  | .dct _ ds, ⟨pu, hn, xs, h1, h2⟩ => ⟨pu, hn, xs, by rw [k]; exact h1, IsL.ext x ds xs h2⟩
  | .lck _ xs _ ds, ⟨pu, hn, h1, h2⟩ => ⟨pu, hn, by rw [k]; exact h1, IsL.ext x ds xs h2⟩
  | .lso ds, ⟨xs, h1, h2⟩ => ⟨xs, by rw [k]; exact h1, FIsL.ext x ds xs h2⟩
theorem MIs.there {G : Gx} {M : Mem} {H : Hp} {a : Addr} : ∀ {m : MO}, MIs G M H a m → ∃ u, H a = some u
  | .lst _, ⟨_, _, h1, _⟩ => ⟨_, h1⟩
  | .obj _ _, ⟨_, _, _, h1, _⟩ => ⟨_, h1⟩
  | .dct _ _, ⟨_, _, _, h1, _⟩ => ⟨_, h1⟩
  | .lck _ _ _ _, ⟨_, _, h1, _⟩ => ⟨_, h1⟩
  | .lso _, ⟨_, h1, _⟩ => ⟨_, h1⟩
theorem Own.ext {G : Gx} {M : Mem} {H H' : Hp} (o : Own G M H) (x : Ext M M H H') (k : ∀ a, (M a).isSome = true → H' a = H a) : Own G M H' := fun a m e =>
  MIs.ext x (k a (by rw [e]; rfl)) m (o a m e)
theorem Own.there {G : Gx} {M : Mem} {H : Hp} (o : Own G M H) {a : Addr} (h : (M a).isSome = true) : ∃ u, H a = some u := by
  cases e : M a with
  | none => rw [e] at h; cases h
  | some m => exact (o a m e).there
theorem Own.fresh {G : Gx} {M : Mem} {H : Hp} (o : Own G M H) {p : Addr} (h : H p = none) : M p = none := by
  cases e : M p with
  | none => rfl
  | some m =>
    obtain ⟨u, hu⟩ := o.there (a := p) (by rw [e]; rfl)
    rw [h] at hu; cases hu
theorem Own.new {G : Gx} {M : Mem} {H : Hp} {p : Addr} {u : HO} (o : Own G M H) (h : H p = none) : Own G M (upd H p u) :=
  o.ext (Ext.new h) fun a ha => by
    obtain ⟨w, hw⟩ := o.there ha
    rw [upd_ne (ne_of_none hw h)]
theorem Own.setM {G : Gx} {M : Mem} {H : Hp} {p : Addr} {m' : MO} {u : HO} (o : Own G M H) (x : Ext M (mset M p m') H (upd H p u)) (hm : MIs G (mset M p m') (upd H p u) p m') : Own G (mset M p m') (upd H p u) := fun a m e => by
  by_cases ha : a = p
  · subst ha
    rw [mset_same] at e
    cases e
    exact hm
  · rw [mset_ne ha] at e
    exact MIs.ext x (upd_ne ha) m (o a m e)
theorem Own.newOwn {G : Gx} {M : Mem} {H : Hp} {p : Addr} {ds : List D} {xs : List V} (o : Own G M H) (h : H p = none) (pu : pureL ds = true) (hl : IsL G M H ds xs) : Own G (mset M p (.lst ds)) (upd H p (.lst xs)) :=
  o.setM (Ext.newOwn h) ⟨pu, xs, upd_same, IsL.ext (Ext.newOwn h) ds xs hl⟩
theorem Own.put {G : Gx} {M : Mem} {H : Hp} {p : Addr} {ds : List D} {xs : List V} (o : Own G M H) (h : (M p).isSome = true) (pu : pureL ds = true) (hl : IsL G M H ds xs) : Own G (mset M p (.lst ds)) (upd H p (.lst xs)) :=
  o.setM (Ext.put h) ⟨pu, xs, upd_same, IsL.ext (Ext.put h) ds xs hl⟩
mutual
theorem Is.sub {G : Gx} {M M' : Mem} {H : Hp} (x : ∀ a, M a = none → M' a = none) : ∀ (d : D) (v : V), pureD d = true → Is G M H d v → Is G M' H d v
  | .non, _, _, h => h
  | .bl _, _, _, h => h
  | .int _, _, _, h => h
  | .str _, _, _, h => h
  | .tup ds, _, p, h => by
    unfold Is at h ⊢
    unfold pureD at p
    obtain ⟨a, xs, e, m, ha, hl⟩ := h
    exact ⟨a, xs, e, x a m, ha, IsL.sub x ds xs p hl⟩
  | .lst ds, _, p, h => by
    unfold Is at h ⊢
    unfold pureD at p
    obtain ⟨a, xs, e, m, ha, hl⟩ := h
    exact ⟨a, xs, e, x a m, ha, IsL.sub x ds xs p hl⟩
  | .scr ns, _, _, h => by
    unfold Is at h ⊢
    obtain ⟨a, e, h⟩ := h
    rcases h with ⟨m, o, ha⟩ | h
    · exact ⟨a, e, .inl ⟨x a m, o, ha⟩⟩
    · exact ⟨a, e, .inr h⟩
  | .ln t p o, _, _, h => by
    unfold Is at h ⊢
    obtain ⟨a, dx, q, e, m, ha, mq, hq⟩ := h
    exact ⟨a, dx, q, e, x a m, ha, x q mq, hq⟩
  | .own a, _, p, h => by unfold pureD at p; cases p
  | .exn c f, _, p, h => by
    unfold Is at h ⊢
    unfold pureD at p
    obtain ⟨a, dd, u, e, m, ha, md, hd, hf⟩ := h
    exact ⟨a, dd, u, e, x a m, ha, x dd md, hd, Is.sub x f u p hf⟩
  | .cls, _, _, h => by
    unfold Is at h ⊢
    exact h
  | .exn0 c, _, _, h => by
    unfold Is at h ⊢
    obtain ⟨a, e, m, ha⟩ := h
    exact ⟨a, e, x a m, ha⟩
  | .dct ks ds, _, p, h => by
    unfold Is at h ⊢
    unfold pureD at p
    obtain ⟨a, xs, e, m, ha, hn, hl⟩ := h
    exact ⟨a, xs, e, x a m, ha, hn, IsL.sub x ds xs p hl⟩
theorem IsL.sub {G : Gx} {M M' : Mem} {H : Hp} (x : ∀ a, M a = none → M' a = none) : ∀ (ds : List D) (vs : List V), pureL ds = true → IsL G M H ds vs → IsL G M' H ds vs
  | [], [], _, _ => by unfold IsL; trivial
  | [], _ :: _, _, h => by unfold IsL at h; exact h.elim
  | _ :: _, [], _, h => by unfold IsL at h; exact h.elim
  | d :: ds, v :: vs, p, h => by
    unfold IsL at h ⊢
    unfold pureL at p
    rw [Bool.and_eq_true] at p
    exact ⟨Is.sub x d v p.1 h.1, IsL.sub x ds vs p.2 h.2⟩
end
def Sub (M2 M : Mem) : Prop := ∀ a m, M2 a = some m → M a = some m
theorem Sub.non {M2 M : Mem} (s : Sub M2 M) {a : Addr} (h : M a = none) : M2 a = none := by
  cases e : M2 a with
  | none => rfl
  | some m => rw [s a m e] at h; cases h
theorem Sub.refl {M : Mem} : Sub M M := fun _ _ h => h
theorem Sub.set {M : Mem} {p : Addr} {m : MO} (h : M p = none) : Sub M (mset M p m) := fun a n e => by
  have ne : a ≠ p := fun z => by rw [z, h] at e; cases e
  rw [mset_ne ne]; exact e
theorem FIsL.sub {G : Gx} {M M' : Mem} {H : Hp} (x : ∀ a, M a = none → M' a = none) : ∀ (ds : List D) (vs : List V), FIsL G M H ds vs → FIsL G M' H ds vs
  | [], [], _ => trivial
  | [], _ :: _, h => h.elim
  | _ :: _, [], h => h.elim
  | d :: ds, v :: vs, h => ⟨by
    have h1 := h.1
    cases d with
    | own b => exact h1
    | _ => exact ⟨h1.1, Is.sub x _ _ h1.1 h1.2⟩, FIsL.sub x ds vs h.2⟩
theorem Own.sub {G : Gx} {M M2 : Mem} {H : Hp} (o : Own G M H) (s : Sub M2 M) : Own G M2 H := fun a m e => by
  have q := o a m (s a m e)
  cases m with
  | lst ds =>
    obtain ⟨pu, xs, h1, h2⟩ := q
    exact ⟨pu, xs, h1, IsL.sub (fun b hb => s.non hb) ds xs pu h2⟩
  | obj c ds =>
    obtain ⟨hl, dx, vs, h1, h2⟩ := q
    exact ⟨hl, dx, vs, h1, FIsL.sub (fun b hb => s.non hb) ds vs h2⟩
  | dct ks ds =>
    obtain ⟨pu, hn, xs, h1, h2⟩ := q
    exact ⟨pu, hn, xs, h1, IsL.sub (fun b hb => s.non hb) ds xs pu h2⟩
  | lck o xs ks ds =>
    obtain ⟨pu, hn, h1, h2⟩ := q
    exact ⟨pu, hn, h1, IsL.sub (fun b hb => s.non hb) ds xs pu h2⟩
  | lso ds =>
    obtain ⟨xs, h1, h2⟩ := q
    exact ⟨xs, h1, FIsL.sub (fun b hb => s.non hb) ds xs h2⟩
theorem Ext.sub {M M' M2 : Mem} {H H' : Hp} (x : Ext M M' H H') (s : Sub M2 M') (d : ∀ a, (M a).isSome = true → (M2 a).isSome = true) : Ext M M2 H H' :=
  ⟨fun a o m h => ⟨(x.st a o m h).1, s.non (x.st a o m h).2⟩, d⟩
abbrev Gm := List (Option D)
def gt : Gm → Nat → Option D
  | [], _ => none
  | x :: _, 0 => x
  | _ :: r, n + 1 => gt r n
def gset : Gm → Nat → Option D → Gm
  | [], _, _ => []
  | _ :: r, 0, d => d :: r
  | x :: r, n + 1, d => x :: gset r n d
def SlR (G : Gx) (M : Mem) (H : Hp) : Gm → St → Prop
  | [], [] => True
  | none :: r, _ :: s => SlR G M H r s
  | some d :: r, x :: s => (∃ v, x = some v ∧ Is G M H d v) ∧ SlR G M H r s
  | _, _ => False
theorem SlR.ext {G : Gx} {M M' : Mem} {H H' : Hp} (x : Ext M M' H H') : ∀ {γ : Gm} {σ : St}, SlR G M H γ σ → SlR G M' H' γ σ
  | [], [], _ => trivial
  | [], _ :: _, h => h.elim
  | _ :: _, [], h => by rename_i a b; cases a <;> exact h.elim
  | none :: r, _ :: s, h => SlR.ext (γ := r) (σ := s) x h
  | some d :: r, y :: s, h => ⟨let ⟨v, e, q⟩ := h.1; ⟨v, e, Is.ext x d v q⟩, SlR.ext (γ := r) (σ := s) x h.2⟩
theorem SlR.get {G : Gx} {M : Mem} {H : Hp} : ∀ {γ : Gm} {σ : St} {i : Nat} {d : D}, SlR G M H γ σ → gt γ i = some d → ∃ v, σ[i]? = some (some v) ∧ Is G M H d v
  | [], _, _, _, _, e => by cases e
  | a :: _, [], _, _, h, _ => by cases a <;> exact h.elim
  | none :: r, _ :: s, 0, _, _, e => by cases e
  | some d :: r, y :: s, 0, d', h, e => by
    have e' : some d = some d' := e
    cases e'
    obtain ⟨⟨v, e1, q⟩, _⟩ := h
    exact ⟨v, by simp [e1], q⟩
  | none :: r, y :: s, i + 1, d, h, e => by
    obtain ⟨v, h1, h2⟩ := SlR.get (γ := r) (σ := s) (i := i) (d := d) h e
    exact ⟨v, by simpa using h1, h2⟩
  | some _ :: r, y :: s, i + 1, d, h, e => by
    obtain ⟨v, h1, h2⟩ := SlR.get (γ := r) (σ := s) (i := i) (d := d) h.2 e
    exact ⟨v, by simpa using h1, h2⟩
theorem SlR.set {G : Gx} {M : Mem} {H : Hp} : ∀ {γ : Gm} {σ : St} {i : Nat} {d : D} {v : V}, SlR G M H γ σ → Is G M H d v → SlR G M H (gset γ i (some d)) (σ.set i (some v))
  | [], [], _, _, _, _, _ => trivial
  | [], _ :: _, _, _, _, h, _ => h.elim
  | a :: _, [], _, _, _, h, _ => by cases a <;> exact h.elim
  | none :: r, y :: s, 0, d, v, h, e => ⟨⟨v, rfl, e⟩, h⟩
  | some _ :: r, y :: s, 0, d, v, h, e => ⟨⟨v, rfl, e⟩, h.2⟩
  | none :: r, y :: s, i + 1, d, v, h, e => SlR.set (γ := r) (σ := s) (i := i) h e
  | some _ :: r, y :: s, i + 1, d, v, h, e => ⟨h.1, SlR.set (γ := r) (σ := s) (i := i) h.2 e⟩
structure Rel (G : Gx) (M : Mem) (γ : Gm) (σ : St) (H : Hp) : Prop where
  sl : SlR G M H γ σ
  ow : Own G M H
theorem Rel.mk' {G : Gx} {M M' : Mem} {γ : Gm} {σ : St} {H H' : Hp} (r : Rel G M γ σ H) (x : Ext M M' H H') (o : Own G M' H') : Rel G M' γ σ H' := ⟨r.sl.ext x, o⟩
abbrev DR := D → Mem → Prop
abbrev DE := Gm → Mem → DR → Prop
abbrev DT := Gm → Mem → (Bool → Mem → Prop) → Prop
abbrev DA := Gm → Mem → (List D → Mem → Prop) → Prop
def Snd (G : Gx) (t : TE) (v : DE) : Prop := ∀ (γ : Gm) (M : Mem) (R : DR) (σ : St) (H : Hp) (Q : VK), Rel G M γ σ H → v γ M R →
  (∀ d M' x H', Own G M' H' → Is G M' H' d x → Ext M M' H H' → R d M' → Q x H') → t σ H Q
def SndT (G : Gx) (t : TT) (v : DT) : Prop := ∀ (γ : Gm) (M : Mem) (R : Bool → Mem → Prop) (σ : St) (H : Hp) (Q : Bool → Hp → Prop), Rel G M γ σ H → v γ M R →
  (∀ b M' H', Own G M' H' → Ext M M' H H' → R b M' → Q b H') → t σ H Q
def SndA (G : Gx) (t : TA) (v : DA) : Prop := ∀ (γ : Gm) (M : Mem) (R : List D → Mem → Prop) (σ : St) (H : Hp) (Q : List V → Hp → Prop), Rel G M γ σ H → v γ M R →
  (∀ ds M' xs H', Own G M' H' → IsL G M' H' ds xs → Ext M M' H H' → R ds M' → Q xs H') → t σ H Q
structure QE (X : Cx) (C : Addr) (e : Expr) (v : DE) : Prop where
  ex : ∃ t, PE X e t ∧ Snd ⟨X.K, C⟩ t v
structure QT (X : Cx) (C : Addr) (e : Expr) (v : DT) : Prop where
  ex : ∃ t, PT X e t ∧ SndT ⟨X.K, C⟩ t v
structure QA (X : Cx) (C : Addr) (es : List Expr) (v : DA) : Prop where
  ex : ∃ t, PA X es t ∧ SndA ⟨X.K, C⟩ t v
def vVar (i : Nat) : DE := fun γ M R => match gt γ i with
  | some d => R d M
  | none => False
def vC (d : D) : DE := fun _ M R => R d M
section
variable {X : Cx} {C : Addr} {a b : Expr} {va vb : DE} {pos : Pos}
theorem snd_var {G : Gx} {i : Nat} : Snd G (tVar i) (vVar i) := fun γ M R σ H Q r h k => by
  unfold vVar at h
  cases e : gt γ i with
  | none => rw [e] at h; exact h.elim
  | some d =>
    rw [e] at h
    obtain ⟨v, h1, h2⟩ := r.sl.get e
    exact ⟨v, h1, k d M v H r.ow h2 Ext.refl h⟩
theorem qv (i : Nat) {x : Str} {pos : Pos} (hN : X.N[i]? = some x := by rfl) (hv : Vis X.env.scope x := by first | exact Or.inl rfl | exact Or.inr (Or.inl rfl) | exact Or.inr (Or.inr rfl)) (hd : (x == ("__debug__" : Str)) = false := by decide)
    (hcd : (x == ("__classdict__" : Str)) = false := by decide) : QE X C (.Name x pos) (vVar i) := ⟨_, pe_var hN hv hd hcd, snd_var⟩
theorem qi {i j pos} : QE X C (.Constant (.int i) j pos) (vC (.int i)) := ⟨_, pe_int, fun _ M R _ H Q r h k => k _ M _ H r.ow is_int Ext.refl h⟩
theorem qb {i j pos} : QE X C (.Constant (.bool i) j pos) (vC (.bl i)) := ⟨_, pe_bl, fun _ M R _ H Q r h k => k _ M _ H r.ow is_bl Ext.refl h⟩
theorem qs {i j pos} : QE X C (.Constant (.str i) j pos) (vC (.str i)) := ⟨_, pe_str, fun _ M R _ H Q r h k => k _ M _ H r.ow is_str Ext.refl h⟩
theorem qn {j pos} : QE X C (.Constant .none j pos) (vC .non) := ⟨_, pe_non, fun _ M R _ H Q r h k => k _ M _ H r.ow is_non Ext.refl h⟩
abbrev DO := D → D → Mem → DR → Prop
def SndO (G : Gx) (r : R2) (o : DO) : Prop := ∀ (d e : D) (M : Mem) (R : DR) (H : Hp) (x y : V) (Q : VK), Own G M H → Is G M H d x → Is G M H e y → o d e M R →
  (∀ d M' x H', Own G M' H' → Is G M' H' d x → Ext M M' H H' → R d M' → Q x H') → r x y H Q
def vOp (o : DO) (a b : DE) : DE := fun γ M R => a γ M fun x M1 => b γ M1 fun y M2 => o x y M2 R
theorem snd_op {G : Gx} {ta tb : TE} {r : R2} {o : DO} (ha : Snd G ta va) (hb : Snd G tb vb) (so : SndO G r o) : Snd G (tOp r ta tb) (vOp o va vb) := fun γ M R σ H Q re h k =>
  ha γ M _ σ H _ re h fun d M1 x H1 o1 i1 e1 h1 => hb γ M1 _ σ H1 _ (re.mk' e1 o1) h1 fun d2 M2 y H2 o2 i2 e2 h2 =>
    so d d2 M2 R H2 x y Q o2 (Is.ext e2 d x i1) i2 h2 fun d3 M3 z H3 o3 i3 e3 h3 => k d3 M3 z H3 o3 i3 ((e1.trans e2).trans e3) h3
theorem qe_op {op : Operator} {r : R2} {o : DO} (ho : OpR X (binaryOp op) r) (so : SndO ⟨X.K, C⟩ r o) (ha : QE X C a va) (hb : QE X C b vb) : QE X C (.BinOp a op b pos) (vOp o va vb) := by
  obtain ⟨ta, pa, sa⟩ := ha.ex
  obtain ⟨tb, pb, sb⟩ := hb.ex
  exact ⟨_, pe_op ho pa pb, snd_op sa sb so⟩
def oI (K : Int → Int → Prop) (g : Int → Int → D) : DO := fun d e M R => match d, e with
  | .int i, .int j => K i j ∧ R (g i j) M
  | _, _ => False
def oI0 (g : Int → Int → D) : DO := fun d e M R => match d, e with
  | .int i, .int j => R (g i j) M
  | _, _ => False
theorem sndO_I {G : Gx} {K : Int → Int → Prop} {g : Int → Int → D} {gv : Int → Int → V} (hg : ∀ i j (M : Mem) (H : Hp), Is G M H (g i j) (gv i j)) : SndO G (rI K gv) (oI K g) := fun d e M R H x y Q o i1 i2 h k => by
  cases d with
  | int i =>
    cases e with
    | int j =>
      unfold Is at i1 i2
      obtain ⟨hk, hr⟩ : K i j ∧ R (g i j) M := h
      exact ⟨i, j, i1, i2, hk, k _ M _ H o (hg i j M H) Ext.refl hr⟩
    | _ => exact False.elim h
  | _ => exact False.elim h
theorem sndO_I0 {G : Gx} {g : Int → Int → D} {gv : Int → Int → V} (hg : ∀ i j (M : Mem) (H : Hp), Is G M H (g i j) (gv i j)) : SndO G (rI0 gv) (oI0 g) := fun d e M R H x y Q o i1 i2 h k => by
  cases d with
  | int i =>
    cases e with
    | int j =>
      unfold Is at i1 i2
      exact ⟨i, j, i1, i2, k _ M _ H o (hg i j M H) Ext.refl h⟩
    | _ => exact False.elim h
  | _ => exact False.elim h
theorem q_sub (ha : QE X C a va) (hb : QE X C b vb) : QE X C (.BinOp a .Sub b pos) (vOp (oI0 fun i j => .int (i - j)) va vb) := qe_op op_sub (sndO_I0 fun _ _ _ _ => is_int) ha hb
theorem op_mulX : OpR X (binaryOp .Mult) (rI IntMulOk fun i j => .int (i * j)) := opI fun _ _ _ _ _ _ _ hc q => PyProof.Rows.mul_int q hc
theorem q_mul (ha : QE X C a va) (hb : QE X C b vb) : QE X C (.BinOp a .Mult b pos) (vOp (oI IntMulOk fun i j => .int (i * j)) va vb) := qe_op op_mulX (sndO_I fun _ _ _ _ => is_int) ha hb
def CD (_ j : Int) : Prop := 0 < j ∧ j.natAbs.log2 < 9000
theorem op_divX : OpR X (binaryOp .FloorDiv) (rI CD fun i j => .int (i / j)) := opI fun i j _ _ _ _ _ hc q => by
  have h1 : (0 : Int) < j := hc.1
  exact PyProof.Rows.floordiv_int (by omega) (by rw [Int.fdiv_eq_ediv_of_nonneg i (by omega)]; exact q) (.inl (PyProof.noPylong_of_log2 hc.2))
theorem q_div (ha : QE X C a va) (hb : QE X C b vb) : QE X C (.BinOp a .FloorDiv b pos) (vOp (oI CD fun i j => .int (i / j)) va vb) := qe_op op_divX (sndO_I fun _ _ _ _ => is_int) ha hb
theorem q_mod (ha : QE X C a va) (hb : QE X C b vb) : QE X C (.BinOp a .Mod b pos) (vOp (oI (fun _ j => 0 < j) fun i j => .int (i % j)) va vb) := qe_op op_mod (sndO_I fun _ _ _ _ => is_int) ha hb
end
end Dl
namespace Dl
open PySem L2
def seqI (M : Mem) : D → Option (List D)
  | .lst xs => some xs
  | .tup xs => some xs
  | .scr ns => some (ns.map D.int)
  | .own a => match M a with
    | some (.lst xs) => some xs
    | _ => none
  | _ => none
theorem isL_ints {G : Gx} {M : Mem} {H : Hp} : ∀ ns : List Int, IsL G M H (ns.map D.int) (ns.map V.int)
  | [] => IsL.nil
  | n :: r => IsL.cons is_int (isL_ints r)
def isTup : D → Bool
  | .tup _ => true
  | _ => false
theorem seq_at {G : Gx} {M : Mem} {H : Hp} {d : D} {v : V} {ds : List D} (o : Own G M H) (h : Is G M H d v) (e : seqI M d = some ds) :
    ∃ a xs, v = .ref a ∧ IsL G M H ds xs ∧ ((isTup d = false ∧ SqL G.K H a xs) ∨ (isTup d = true ∧ SqT G.K H a xs)) := by
  cases d with
  | lst xs =>
    unfold Is at h
    obtain ⟨a, ys, e1, m, ha, hl⟩ := h
    cases e
    exact ⟨a, ys, e1, hl, .inl ⟨rfl, SqL.of ha⟩⟩
  | tup xs =>
    unfold Is at h
    obtain ⟨a, ys, e1, m, ha, hl⟩ := h
    cases e
    exact ⟨a, ys, e1, hl, .inr ⟨rfl, SqT.of ha⟩⟩
  | scr ns =>
    unfold Is at h
    obtain ⟨a, e1, h⟩ := h
    cases e
    refine ⟨a, ns.map V.int, e1, isL_ints ns, .inl ⟨rfl, ?_⟩⟩
    rcases h with ⟨m, ob, ha⟩ | h
    · exact .inl (.inr ⟨ob, ha⟩)
    · exact .inr h
  | own a =>
    unfold Is at h
    obtain ⟨e1, hs⟩ := h
    cases q : M a with
    | none => rw [q] at hs; cases hs
    | some m =>
      cases m with
      | lst xs =>
        simp only [seqI, q] at e
        cases e
        obtain ⟨_, ys, ha, hl⟩ := o a _ q
        exact ⟨a, ys, e1, hl, .inl ⟨rfl, SqL.of ha⟩⟩
      | _ => simp only [seqI, q] at e; cases e
  | _ => cases e
def lstI (M : Mem) : D → Option (List D)
  | .lst xs => some xs
  | .own a => match M a with
    | some (.lst xs) => some xs
    | _ => none
  | _ => none
theorem lst_at {G : Gx} {M : Mem} {H : Hp} {d : D} {v : V} {ds : List D} (o : Own G M H) (h : Is G M H d v) (e : lstI M d = some ds) : ∃ a xs, v = .ref a ∧ IsL G M H ds xs ∧ H a = some (.lst xs) := by
  cases d with
  | lst xs =>
    unfold Is at h
    obtain ⟨a, ys, e1, m, ha, hl⟩ := h
    cases e
    exact ⟨a, ys, e1, hl, ha⟩
  | own a =>
    unfold Is at h
    obtain ⟨e1, hs⟩ := h
    cases q : M a with
    | none => rw [q] at hs; cases hs
    | some m =>
      cases m with
      | lst xs =>
        simp only [lstI, q] at e
        cases e
        obtain ⟨_, ys, ha, hl⟩ := o a _ q
        exact ⟨a, ys, e1, hl, ha⟩
      | _ => simp only [lstI, q] at e; cases e
  | _ => cases e
theorem new_lst {G : Gx} {M : Mem} {H : Hp} {p : Addr} {ds : List D} {xs : List V} (o : Own G M H) (h : H p = none) (hl : IsL G M H ds xs) : Is G M (upd H p (.lst xs)) (.lst ds) (.ref p) := by
  unfold Is
  exact ⟨p, xs, rfl, o.fresh h, upd_same, IsL.ext (Ext.new h) ds xs hl⟩
theorem new_tup {G : Gx} {M : Mem} {H : Hp} {p : Addr} {ds : List D} {xs : List V} (o : Own G M H) (h : H p = none) (hl : IsL G M H ds xs) : Is G M (upd H p (.tup xs)) (.tup ds) (.ref p) := by
  unfold Is
  exact ⟨p, xs, rfl, o.fresh h, upd_same, IsL.ext (Ext.new h) ds xs hl⟩
theorem is_own {G : Gx} {M : Mem} {H : Hp} {p : Addr} {m : MO} : Is G (mset M p m) H (.own p) (.ref p) := by
  unfold Is
  exact ⟨rfl, by rw [mset_same]; rfl⟩
section
variable {X : Cx} {C : Addr} {a b c : Expr} {va vb vc : DE} {pos : Pos}
def rAddAll (K : PySem.W.Frag) : R2 := fun x y H Q => (∃ i j, x = .int i ∧ y = .int j ∧ Q (.int (i + j)) H) ∨ ((∃ i j, x = .str i ∧ y = .str j ∧ i.length + j.length ≤ sizeLine ∧ Q (.str (i ++ j)) H) ∨ rCat x y H Q)
theorem op_addAll : OpR X (binaryOp .Add) (rAddAll X.K) := OpR.or op_add (OpR.or op_add_str op_cat)
def oAdd : DO := fun d e M R => match d, e with
  | .int i, .int j => R (.int (i + j)) M
  | .str i, .str j => i.length + j.length ≤ sizeLine ∧ R (.str (i ++ j)) M
  | d, e => match lstI M d, lstI M e with
    | some xs, some ys => xs.length + ys.length ≤ sizeLine ∧ R (.lst (xs ++ ys)) M
    | _, _ => False
theorem sndO_cat {G : Gx} {d e : D} {M : Mem} {R : DR} {H : Hp} {x y : V} {Q : VK} (o : Own G M H) (i1 : Is G M H d x) (i2 : Is G M H e y)
    (h : match lstI M d, lstI M e with | some xs, some ys => xs.length + ys.length ≤ sizeLine ∧ R (.lst (xs ++ ys)) M | _, _ => False)
    (k : ∀ d M' x H', Own G M' H' → Is G M' H' d x → Ext M M' H H' → R d M' → Q x H') : rCat x y H Q := by
  cases e1 : lstI M d with
  | none => rw [e1] at h; exact h.elim
  | some xs =>
    cases e2 : lstI M e with
    | none => rw [e1, e2] at h; exact h.elim
    | some ys =>
      rw [e1, e2] at h
      obtain ⟨hz, hr⟩ := h
      obtain ⟨p, us, rfl, l1, h1⟩ := lst_at o i1 e1
      obtain ⟨q, ws, rfl, l2, h2⟩ := lst_at o i2 e2
      refine ⟨p, q, us, ws, rfl, rfl, h1, h2, by rw [← l1.len, ← l2.len]; exact hz, fun n hn => ?_⟩
      exact k _ M _ _ (o.new hn) (new_lst o hn (l1.append l2)) (Ext.new hn) hr
theorem sndO_add {G : Gx} : SndO G (rAddAll G.K) oAdd := fun d e M R H x y Q o i1 i2 h k => by
  cases d with
  | int i =>
    cases e with
    | int j => unfold Is at i1 i2; exact .inl ⟨i, j, i1, i2, k _ M _ H o is_int Ext.refl h⟩
    | _ => exact .inr (.inr (sndO_cat o i1 i2 h k))
  | str i =>
    cases e with
    | str j => unfold Is at i1 i2; exact .inr (.inl ⟨i, j, i1, i2, h.1, k _ M _ H o is_str Ext.refl h.2⟩)
    | _ => exact .inr (.inr (sndO_cat o i1 i2 h k))
  | _ => exact .inr (.inr (sndO_cat o i1 i2 h k))
theorem q_add (ha : QE X C a va) (hb : QE X C b vb) : QE X C (.BinOp a .Add b pos) (vOp oAdd va vb) := qe_op op_addAll sndO_add ha hb
def CP (i j : Int) : Prop := 0 ≤ j ∧ (Builtin.Int.intBits i : Int) * j ≤ 2 ^ 27
theorem op_powX : OpR X (binaryOp .Pow) (rI CP fun i j => .int (i ^ j.toNat)) := opI fun _ _ _ _ _ _ _ hc q => PyProof.Rows.pow_int hc.1 hc.2 q
theorem q_pow (ha : QE X C a va) (hb : QE X C b vb) : QE X C (.BinOp a .Pow b pos) (vOp (oI CP fun i j => .int (i ^ j.toNat)) va vb) := qe_op op_powX (sndO_I fun _ _ _ _ => is_int) ha hb
def vNeg (a : DE) : DE := fun γ M R => a γ M fun d M1 => match d with
  | .int i => R (.int (-i)) M1
  | _ => False
theorem q_neg (ha : QE X C a va) : QE X C (.UnaryOp .USub a pos) (vNeg va) := by
  obtain ⟨ta, pa, sa⟩ := ha.ex
  refine ⟨_, pe_un un_neg pa, fun γ M R σ H Q re h k => sa γ M _ σ H _ re h fun d M1 x H1 o1 i1 e1 h1 => ?_⟩
  cases d with
  | int i => unfold Is at i1; exact ⟨i, i1, k _ M1 _ H1 o1 is_int e1 h1⟩
  | _ => exact False.elim h1
def vNil : DA := fun _ M R => R [] M
def vCons (a : DE) (r : DA) : DA := fun γ M R => a γ M fun d M1 => r γ M1 fun ds M2 => R (d :: ds) M2
theorem qa_nil : QA X C [] vNil := ⟨_, pa_nil, fun _ M R _ H Q r h k => k _ M _ H r.ow IsL.nil Ext.refl h⟩
theorem snd_cons {G : Gx} {ta : TE} {tr : TA} {vr : DA} (sa : Snd G ta va) (sr : SndA G tr vr) : SndA G (tCons ta tr) (vCons va vr) := fun γ M R σ H Q re h k =>
  sa γ M _ σ H _ re h fun d M1 x H1 o1 i1 e1 h1 => sr γ M1 _ σ H1 _ (re.mk' e1 o1) h1 fun ds M2 xs H2 o2 i2 e2 h2 =>
    k _ M2 _ H2 o2 (IsL.cons (Is.ext e2 d x i1) i2) (e1.trans e2) h2
theorem qa_cons {es : List Expr} {vr : DA} (ha : QE X C a va) (hr : QA X C es vr) (hs : starEach (a :: es) X.env = (false, eval a X.env) :: starEach es X.env := by rfl) : QA X C (a :: es) (vCons va vr) := by
  obtain ⟨ta, pa, sa⟩ := ha.ex
  obtain ⟨tr, pr, sr⟩ := hr.ex
  exact ⟨_, pa_cons pa pr hs, snd_cons sa sr⟩
def vTup (a : DA) : DE := fun γ M R => a γ M fun ds M1 => ds.length ≤ sizeLine ∧ R (.tup ds) M1
def vLst (a : DA) : DE := fun γ M R => a γ M fun ds M1 => ds.length ≤ sizeLine ∧ R (.lst ds) M1
def vLstO (a : DA) : DE := fun γ M R => a γ M fun ds M1 => ds.length ≤ sizeLine ∧ pureL ds = true ∧ ∀ p, M1 p = none → R (.own p) (mset M1 p (.lst ds))
theorem q_tup {es : List Expr} {vr : DA} {k} (hr : QA X C es vr) : QE X C (.Tuple es k pos) (vTup vr) := by
  obtain ⟨tr, pr, sr⟩ := hr.ex
  refine ⟨_, pe_tup pr, fun γ M R σ H Q re h k => sr γ M _ σ H _ re h fun ds M1 xs H1 o1 i1 e1 h1 => ⟨by rw [← i1.len]; exact h1.1, fun p hp => ?_⟩⟩
  exact k _ M1 _ _ (o1.new hp) (new_tup o1 hp i1) (e1.trans (Ext.new hp)) h1.2
theorem q_lst {es : List Expr} {vr : DA} (hr : QA X C es vr) : QE X C (.List es pos) (vLst vr) := by
  obtain ⟨tr, pr, sr⟩ := hr.ex
  refine ⟨_, pe_lst pr, fun γ M R σ H Q re h k => sr γ M _ σ H _ re h fun ds M1 xs H1 o1 i1 e1 h1 => ⟨by rw [← i1.len]; exact h1.1, fun p hp => ?_⟩⟩
  exact k _ M1 _ _ (o1.new hp) (new_lst o1 hp i1) (e1.trans (Ext.new hp)) h1.2
theorem q_lstO {es : List Expr} {vr : DA} (hr : QA X C es vr) : QE X C (.List es pos) (vLstO vr) := by
  obtain ⟨tr, pr, sr⟩ := hr.ex
  refine ⟨_, pe_lst pr, fun γ M R σ H Q re h k => sr γ M _ σ H _ re h fun ds M1 xs H1 o1 i1 e1 h1 => ⟨by rw [← i1.len]; exact h1.1, fun p hp => ?_⟩⟩
  exact k _ (mset M1 p (.lst ds)) _ _ (o1.newOwn hp h1.2.1 i1) is_own (e1.trans (Ext.newOwn hp)) (h1.2.2 p (o1.fresh hp))
def nthD : List D → Nat → Option D
  | [], _ => none
  | x :: _, 0 => some x
  | _ :: r, n + 1 => nthD r n
theorem nthD_eq : ∀ (ds : List D) (n : Nat), nthD ds n = ds[n]?
  | [], _ => by simp [nthD]
  | _ :: _, 0 => by simp [nthD]
  | _ :: r, n + 1 => by simp [nthD, nthD_eq r n]
theorem atI_of_isL {G : Gx} {M : Mem} {H : Hp} {ds : List D} {xs : List V} {i : Int} {d : D} (l : IsL G M H ds xs) (h : atI ds i = some d) : ∃ v, atI xs i = some v ∧ Is G M H d v := by
  unfold atI at h ⊢
  rw [← l.len]
  cases e : ixN ds.length i with
  | none => rw [e] at h; cases h
  | some j =>
    rw [e] at h
    exact l.get h
def oIx : DO := fun d e M R => match seqI M d, e with
  | some ds, .int i => ∃ x, atI ds i = some x ∧ R x M
  | _, _ => False
theorem sndO_ix {G : Gx} : SndO G (rIx G.K) oIx := fun d e M R H x y Q o i1 i2 h k => by
  unfold oIx at h
  cases q : seqI M d with
  | none => rw [q] at h; exact h.elim
  | some ds =>
    rw [q] at h
    cases e with
    | int i =>
      obtain ⟨z, hz, hr⟩ := h
      unfold Is at i2
      obtain ⟨p, xs, e1, l, s⟩ := seq_at o i1 q
      obtain ⟨v, hv, iv⟩ := atI_of_isL l hz
      rcases s with ⟨_, s⟩ | ⟨_, s⟩
      · exact .inl ⟨p, xs, i, v, e1, i2, s, hv, k _ M _ H o iv Ext.refl hr⟩
      · exact .inr (.inl ⟨p, xs, i, v, e1, i2, s, hv, k _ M _ H o iv Ext.refl hr⟩)
    | _ => exact h.elim
theorem q_ix (ha : QE X C a va) (hb : QE X C b vb) (hs : PlainIx b := by exact fun _ _ => rfl) : QE X C (.Subscript a b pos) (vOp oIx va vb) := by
  obtain ⟨ta, pa, sa⟩ := ha.ex
  obtain ⟨tb, pb, sb⟩ := hb.ex
  exact ⟨_, pe_ix ix_seq pa pb hs, snd_op sa sb sndO_ix⟩
def vIxC (n : Nat) (a : DE) : DE := fun γ M R => a γ M fun d M1 => match seqI M1 d with
  | some ds => (match nthD ds n with
    | some x => R x M1
    | none => False)
  | none => False
theorem q_ixC (n : Nat) {i : Int} {j p} (ha : QE X C a va) (hn : i = (n : Int) := by rfl) (hs : PlainIx (.Constant (.int i) j p) := by exact fun _ _ => rfl) : QE X C (.Subscript a (.Constant (.int i) j p) pos) (vIxC n va) := by
  obtain ⟨ta, pa, sa⟩ := ha.ex
  subst hn
  refine ⟨_, pe_ix ix_seq pa pe_int hs, fun γ M R σ H Q re h k => sa γ M _ σ H _ re h fun d M1 x H1 o1 i1 e1 h1 => ?_⟩
  cases q : seqI M1 d with
  | none => rw [q] at h1; exact h1.elim
  | some ds =>
    simp only [q] at h1
    cases q2 : nthD ds n with
    | none => simp only [q2] at h1
    | some z =>
      simp only [q2] at h1
      obtain ⟨p, xs, e2, l, s⟩ := seq_at o1 i1 q
      rw [nthD_eq] at q2
      obtain ⟨v, hv, iv⟩ := l.get q2
      have hv := atI_nat hv
      rcases s with ⟨_, s⟩ | ⟨_, s⟩
      · exact .inl ⟨p, xs, _, v, e2, rfl, s, hv, k _ M1 _ H1 o1 iv e1 h1⟩
      · exact .inr (.inl ⟨p, xs, _, v, e2, rfl, s, hv, k _ M1 _ H1 o1 iv e1 h1⟩)
def cutD (xs : List D) (lo hi : Option Int) : List D := (xs.drop (HT.sIx xs.length 0 lo)).take (HT.sIx xs.length xs.length hi - HT.sIx xs.length 0 lo)
abbrev DPt := Gm → Mem → (Option Int → Mem → Prop) → Prop
structure QO (X : Cx) (C : Addr) (e : Option Expr) (v : DPt) : Prop where
  ex : ∃ t, PO X e t ∧ ∀ (γ : Gm) (M : Mem) (R : Option Int → Mem → Prop) (σ : St) (H : Hp) (Q : Option Int → Hp → Prop), Rel ⟨X.K, C⟩ M γ σ H → v γ M R →
    (∀ o M' H', Own ⟨X.K, C⟩ M' H' → Ext M M' H H' → R o M' → Q o H') → t σ H Q
def vNoPart : DPt := fun _ M R => R none M
def vPart (a : DE) : DPt := fun γ M R => a γ M fun d M1 => match d with
  | .int i => R (some i) M1
  | _ => False
theorem qo_none : QO X C none vNoPart := ⟨_, po_none, fun _ M R _ H Q r h k => k none M H r.ow Ext.refl h⟩
theorem qo_some (ha : QE X C a va) : QO X C (some a) (vPart va) := by
  obtain ⟨ta, pa, sa⟩ := ha.ex
  refine ⟨_, po_some pa, fun γ M R σ H Q re h k => sa γ M _ σ H _ re h fun d M1 x H1 o1 i1 e1 h1 => ?_⟩
  cases d with
  | int i => unfold Is at i1; exact ⟨i, i1, k _ M1 H1 o1 e1 h1⟩
  | _ => exact False.elim h1
def vSl (a : DE) (l h : DPt) : DE := fun γ M R => a γ M fun d M1 => l γ M1 fun lo M2 => h γ M2 fun hi M3 => isTup d = false ∧ match seqI M3 d with
  | some ds => R (.lst (cutD ds lo hi)) M3
  | none => False
theorem isL_cut {G : Gx} {M : Mem} {H : Hp} {ds : List D} {xs : List V} (l : IsL G M H ds xs) (lo hi : Option Int) : IsL G M H (cutD ds lo hi) (cutV xs lo hi) := by
  unfold cutD cutV
  rw [l.len]
  exact (l.drop _).take _
theorem q_sl {lo hi : Option Expr} {vl vh : DPt} {p2} (ha : QE X C a va) (hl : QO X C lo vl) (hh : QO X C hi vh) : QE X C (.Subscript a (.Slice lo hi none p2) pos) (vSl va vl vh) := by
  obtain ⟨ta, pa, sa⟩ := ha.ex
  obtain ⟨tl, pl, sl⟩ := hl.ex
  obtain ⟨th, ph, sh⟩ := hh.ex
  refine ⟨_, pe_slice sl_list pa pl ph, fun γ M R σ H Q re h k => sa γ M _ σ H _ re h fun d M1 x H1 o1 i1 e1 h1 => sl γ M1 _ σ H1 _ (re.mk' e1 o1) h1 fun u M2 H2 o2 e2 h2 => sh γ M2 _ σ H2 _ (re.mk' (e1.trans e2) o2) h2 fun w M3 H3 o3 e3 h3 => ?_⟩
  obtain ⟨nt, h3⟩ := h3
  cases q : seqI M3 d with
  | none => rw [q] at h3; exact h3.elim
  | some ds =>
    rw [q] at h3
    obtain ⟨p, xs, e4, l, s⟩ := seq_at o3 (Is.ext (e2.trans e3) d x i1) q
    rcases s with ⟨_, s⟩ | ⟨z, _⟩
    · exact ⟨p, xs, e4, s, fun n hn => k _ M3 _ _ (o3.new hn) (new_lst o3 hn (isL_cut l u w)) (((e1.trans e2).trans e3).trans (Ext.new hn)) h3⟩
    · rw [nt] at z; cases z
mutual
def toP : D → Option PyData
  | .non => some .none
  | .bl b => some (.bool b)
  | .int i => some (.int i)
  | .str x => some (.str x)
  | .tup ds => (toPL ds).map .tuple
  | .lst ds => (toPL ds).map .list
  | _ => none
def toPL : List D → Option (List PyData)
  | [] => some []
  | d :: ds => match toP d, toPL ds with
    | some p, some ps => some (p :: ps)
    | _, _ => none
end
mutual
theorem toP_ok {G : Gx} {M : Mem} {H : Hp} : ∀ (d : D) (v : V) (p : PyData), Is G M H d v → toP d = some p → Dp G.K H v p
  | .non, v, p, h, e => by unfold Is at h; unfold toP at e; cases e; rw [h]; exact .non
  | .bl b, v, p, h, e => by unfold Is at h; unfold toP at e; cases e; rw [h]; exact .bl b
  | .int b, v, p, h, e => by unfold Is at h; unfold toP at e; cases e; rw [h]; exact .int b
  | .str b, v, p, h, e => by unfold Is at h; unfold toP at e; cases e; rw [h]; exact .str b
  | .tup ds, v, p, h, e => by
    unfold Is at h
    unfold toP at e
    obtain ⟨a, xs, e1, _, ha, hl⟩ := h
    cases q : toPL ds with
    | none => rw [q] at e; cases e
    | some ps =>
      rw [q] at e
      cases e
      rw [e1]
      exact .tup (SqT.of ha) (toPL_ok ds xs ps hl q)
  | .lst ds, v, p, h, e => by
    unfold Is at h
    unfold toP at e
    obtain ⟨a, xs, e1, _, ha, hl⟩ := h
    cases q : toPL ds with
    | none => rw [q] at e; cases e
    | some ps =>
      rw [q] at e
      cases e
      rw [e1]
      exact .lst (SqL.of ha) (toPL_ok ds xs ps hl q)
  | .scr _, v, p, h, e => by unfold toP at e; cases e
  | .ln _ _ _, v, p, h, e => by unfold toP at e; cases e
  | .own _, v, p, h, e => by unfold toP at e; cases e
  | .exn _ _, v, p, h, e => by unfold toP at e; cases e
  | .exn0 _, v, p, h, e => by unfold toP at e; cases e
  | .cls, v, p, h, e => by unfold toP at e; cases e
  | .dct _ _, v, p, h, e => by unfold toP at e; cases e
theorem toPL_ok {G : Gx} {M : Mem} {H : Hp} : ∀ (ds : List D) (vs : List V) (ps : List PyData), IsL G M H ds vs → toPL ds = some ps → DpAll G.K H vs ps
  | [], [], ps, _, e => by unfold toPL at e; cases e; exact .nil
  | [], _ :: _, _, h, _ => by unfold IsL at h; exact h.elim
  | _ :: _, [], _, h, _ => by unfold IsL at h; exact h.elim
  | d :: ds, v :: vs, ps, h, e => by
    unfold IsL at h
    unfold toPL at e
    cases q : toP d with
    | none => rw [q] at e; cases e
    | some p =>
      cases q2 : toPL ds with
      | none => rw [q, q2] at e; cases e
      | some qs =>
        rw [q, q2] at e
        cases e
        exact .cons (toP_ok d v p h.1 q) (toPL_ok ds vs qs h.2 q2)
end
def toPt (M : Mem) : D → Option PyData
  | .own a => match M a with
    | some (.lst ds) => (toPL ds).map .list
    | _ => none
  | d => toP d
theorem toPt_ok {G : Gx} {M : Mem} {H : Hp} {d : D} {v : V} {p : PyData} (o : Own G M H) (h : Is G M H d v) (e : toPt M d = some p) : Dp G.K H v p := by
  cases d with
  | own a =>
    unfold Is at h
    cases q : M a with
    | none => simp only [toPt, q] at e; cases e
    | some m =>
      cases m with
      | lst ds =>
        simp only [toPt, q] at e
        obtain ⟨_, xs, ha, hl⟩ := o a _ q
        cases q2 : toPL ds with
        | none =>
          have e' : (toPL ds).map PyData.list = some p := e
          rw [q2] at e'; cases e'
        | some ps =>
          have e' : (toPL ds).map PyData.list = some p := e
          rw [q2] at e'
          cases e'
          rw [h.1]
          exact .lst (SqL.of ha) (toPL_ok ds xs ps hl q2)
      | _ => simp only [toPt, q] at e; cases e
  | _ => exact toP_ok _ _ _ h e
def oEqG (f : Bool → Bool) : DO := fun d e M R => match d, e with
  | .int i, .int j => R (.bl (f (decide (i = j)))) M
  | d, e => match toPt M d, toPt M e with
    | some p, some q => SeqAt.shaped p = true ∧ SeqAt.shaped q = true ∧ R (.bl (f (PyData.eqv p q))) M
    | _, _ => False
abbrev oEq : DO := oEqG id
abbrev oNe : DO := oEqG Bool.not
theorem sndO_eqD {G : Gx} {f : Bool → Bool} {d e : D} {M : Mem} {R : DR} {H : Hp} {x y : V} {Q : VK} (o : Own G M H) (i1 : Is G M H d x) (i2 : Is G M H e y)
    (h : match toPt M d, toPt M e with | some p, some q => SeqAt.shaped p = true ∧ SeqAt.shaped q = true ∧ R (.bl (f (PyData.eqv p q))) M | _, _ => False)
    (k : ∀ d M' x H', Own G M' H' → Is G M' H' d x → Ext M M' H H' → R d M' → Q x H') : ∃ p q, Dp G.K H x p ∧ Dp G.K H y q ∧ SeqAt.shaped p = true ∧ SeqAt.shaped q = true ∧ Q (.bl (f (PyData.eqv p q))) H := by
  cases e1 : toPt M d with
  | none => rw [e1] at h; exact h.elim
  | some p =>
    cases e2 : toPt M e with
    | none => rw [e1, e2] at h; exact h.elim
    | some q =>
      rw [e1, e2] at h
      exact ⟨p, q, toPt_ok o i1 e1, toPt_ok o i2 e2, h.1, h.2.1, k _ M _ H o is_bl Ext.refl h.2.2⟩
theorem beq_dec (i j : Int) : (i == j) = decide (i = j) := by
  rw [Bool.eq_iff_iff]; simp
theorem shaped_int (i : Int) : SeqAt.shaped (.int i) = true := by
  show (true && decide (PyData.depth (.int i) ≤ 64)) = true
  rw [Bool.true_and]
  exact decide_eq_true (by unfold PyData.depth; decide)
theorem sndO_eqG {G : Gx} {f : Bool → Bool} : SndO G (fun x y H Q => ∃ p q, Dp G.K H x p ∧ Dp G.K H y q ∧ SeqAt.shaped p = true ∧ SeqAt.shaped q = true ∧ Q (.bl (f (PyData.eqv p q))) H) (oEqG f) := fun d e M R H x y Q o i1 i2 h k => by
  cases d with
  | int i =>
    cases e with
    | int j =>
      unfold Is at i1 i2
      rw [i1, i2]
      refine ⟨.int i, .int j, .int i, .int j, shaped_int i, shaped_int j, k _ M _ H o is_bl Ext.refl ?_⟩
      have h' : R (.bl (f (decide (i = j)))) M := h
      show R (.bl (f (i == j))) M
      rw [beq_dec]
      exact h'
    | _ => exact sndO_eqD o i1 i2 h k
  | _ => exact sndO_eqD o i1 i2 h k
theorem sndO_eq {G : Gx} : SndO G (rEqD G.K) oEq := sndO_eqG (f := id)
theorem sndO_ne {G : Gx} : SndO G (rNeD G.K) oNe := sndO_eqG (f := Bool.not)
structure CmpQ (X : Cx) (C : Addr) (op : CmpOp) (o : DO) : Prop where
  ex : ∃ r, OpR X (compareOp op) r ∧ SndO ⟨X.K, C⟩ r o
theorem c_lt : CmpQ X C .Lt (oI0 fun i j => .bl (decide (i < j))) := ⟨_, op_lt, sndO_I0 fun _ _ _ _ => is_bl⟩
theorem c_le : CmpQ X C .LtE (oI0 fun i j => .bl (decide (i ≤ j))) := ⟨_, op_le, sndO_I0 fun _ _ _ _ => is_bl⟩
theorem c_gt : CmpQ X C .Gt (oI0 fun i j => .bl (decide (j < i))) := ⟨_, op_gt, sndO_I0 fun _ _ _ _ => is_bl⟩
theorem c_ge : CmpQ X C .GtE (oI0 fun i j => .bl (decide (j ≤ i))) := ⟨_, op_ge, sndO_I0 fun _ _ _ _ => is_bl⟩
theorem c_eq {k : Nat} (hr : Room k X.A) : CmpQ X C .Eq oEq := ⟨_, op_eqD hr.units, sndO_eq⟩
theorem c_ne {k : Nat} (hr : Room k X.A) : CmpQ X C .NotEq oNe := ⟨_, op_neD hr.units, sndO_ne⟩
theorem q_cmp {op : CmpOp} {o : DO} (ho : CmpQ X C op o) (ha : QE X C a va) (hb : QE X C b vb) (hm : behindInMarks op b = false := by first | exact nomark _ | rfl) : QE X C (.Compare a [op] [b] pos) (vOp o va vb) := by
  obtain ⟨r, pr, sr⟩ := ho.ex
  obtain ⟨ta, pa, sa⟩ := ha.ex
  obtain ⟨tb, pb, sb⟩ := hb.ex
  exact ⟨_, pe_cmpR pr pa pb hm, snd_op sa sb sr⟩
def vB (v : DE) : DT := fun γ M R => v γ M fun d M1 => match d with
  | .bl b => R b M1
  | _ => False
theorem snd_test {G : Gx} {t : TE} {v : DE} (s : Snd G t v) : SndT G (tTest t) (vB v) := fun γ M R σ H Q re h k => s γ M _ σ H _ re h fun d M1 x H1 o1 i1 e1 h1 => by
  cases d with
  | bl b => unfold Is at i1; exact ⟨b, i1, k b M1 H1 o1 e1 h1⟩
  | _ => exact False.elim h1
theorem qt_cmp {op : CmpOp} {o : DO} (ho : CmpQ X C op o) (ha : QE X C a va) (hb : QE X C b vb) (hm : behindInMarks op b = false := by first | exact nomark _ | rfl) : QT X C (.Compare a [op] [b] pos) (vB (vOp o va vb)) := by
  obtain ⟨r, pr, sr⟩ := ho.ex
  obtain ⟨ta, pa, sa⟩ := ha.ex
  obtain ⟨tb, pb, sb⟩ := hb.ex
  exact ⟨_, pt_cmpR pr pa pb hm, snd_test (snd_op sa sb sr)⟩
def isNon : D → Bool
  | .non => true
  | _ => false
theorem isNon_ok {G : Gx} {M : Mem} {H : Hp} {d : D} {v : V} (h : Is G M H d v) : decide (v = .non) = isNon d := by
  cases d with
  | non => unfold Is at h; rw [h]; rfl
  | bl b => unfold Is at h; rw [h]; rfl
  | int b => unfold Is at h; rw [h]; rfl
  | str b => unfold Is at h; rw [h]; rfl
  | tup b => unfold Is at h; obtain ⟨a, _, h, _⟩ := h; rw [h]; rfl
  | lst b => unfold Is at h; obtain ⟨a, _, h, _⟩ := h; rw [h]; rfl
  | scr b => unfold Is at h; obtain ⟨a, h, _⟩ := h; rw [h]; rfl
  | ln _ _ _ => unfold Is at h; obtain ⟨a, _, _, h, _⟩ := h; rw [h]; rfl
  | own a => unfold Is at h; rw [h.1]; rfl
  | exn _ _ => unfold Is at h; obtain ⟨a, _, _, h, _⟩ := h; rw [h]; rfl
  | exn0 _ => unfold Is at h; obtain ⟨a, h, _⟩ := h; rw [h]; rfl
  | dct _ _ => unfold Is at h; obtain ⟨a, _, h, _⟩ := h; rw [h]; rfl
  | cls => unfold Is at h; rw [h]; rfl
def vIsN (f : Bool → Bool) (a : DE) : DE := fun γ M R => a γ M fun d M1 => R (.bl (f (isNon d))) M1
theorem snd_isN {G : Gx} {ta : TE} (sa : Snd G ta va) : Snd G (tIsN ta) (vIsN id va) := fun γ M R σ H Q re h k => sa γ M _ σ H _ re h fun d M1 x H1 o1 i1 e1 h1 => k _ M1 _ H1 o1 (by unfold Is; rw [isNon_ok i1]; rfl) e1 h1
theorem snd_notN {G : Gx} {ta : TE} (sa : Snd G ta va) : Snd G (tNotN ta) (vIsN Bool.not va) := fun γ M R σ H Q re h k => sa γ M _ σ H _ re h fun d M1 x H1 o1 i1 e1 h1 => k _ M1 _ H1 o1 (by unfold Is; rw [isNon_ok i1]) e1 h1
theorem snd_tB {G : Gx} {t : TE} {v : DE} (s : Snd G t v) : SndT G (tB t) (vB v) := fun γ M R σ H Q re h k => s γ M _ σ H _ re h fun d M1 x H1 o1 i1 e1 h1 => by
  cases d with
  | bl b => unfold Is at i1; exact ⟨b, i1, k b M1 H1 o1 e1 h1⟩
  | _ => exact False.elim h1
theorem q_notN {j p} (ha : QE X C a va) : QE X C (.Compare a [.IsNot] [.Constant .none j p] pos) (vIsN Bool.not va) := by
  obtain ⟨ta, pa, sa⟩ := ha.ex
  exact ⟨_, pe_cmp (pc_notN pa), snd_notN sa⟩
theorem qt_isN {j p} (ha : QE X C a va) : QT X C (.Compare a [.Is] [.Constant .none j p] pos) (vB (vIsN id va)) := by
  obtain ⟨ta, pa, sa⟩ := ha.ex
  exact ⟨_, pt_cmp (pc_isN pa), snd_tB (snd_isN sa)⟩
theorem qt_notN {j p} (ha : QE X C a va) : QT X C (.Compare a [.IsNot] [.Constant .none j p] pos) (vB (vIsN Bool.not va)) := by
  obtain ⟨ta, pa, sa⟩ := ha.ex
  exact ⟨_, pt_cmp (pc_notN pa), snd_tB (snd_notN sa)⟩
theorem qt_val (h : QE X C a va) (he : ∀ whole, isTrue a X.env whole = (do let v ← whole; standAt a.pos; holding [v] (truthy v)) := by intro _; rfl) : QT X C a (vB va) := by
  obtain ⟨ta, pa, sa⟩ := h.ex
  exact ⟨_, pt_val pa he, snd_tB sa⟩
structure QW (X : Cx) (C : Addr) (e : Expr) (v : DT) : Prop where
  ex : ∃ t, PW X e t ∧ SndT ⟨X.K, C⟩ t v
theorem QW.qt {e : Expr} {v : DT} (h : QW X C e v) : QT X C e v := let ⟨t, p, s⟩ := h.ex; ⟨t, p.pt, s⟩
def vAnd (a b : DT) : DT := fun γ M R => a γ M fun k M1 => (k = true → b γ M1 R) ∧ (k = false → R false M1)
def vOr (a b : DT) : DT := fun γ M R => a γ M fun k M1 => (k = true → R true M1) ∧ (k = false → b γ M1 R)
def vNot (a : DT) : DT := fun γ M R => a γ M fun k M1 => R (!k) M1
variable {ua ub : DT} {rest : List Expr}
theorem qw_and1 (ha : QT X C a ua) : QW X C (.BoolOp .And [a] pos) ua := let ⟨t, p, s⟩ := ha.ex; ⟨t, pw_and1 p, s⟩
theorem qw_or1 (ha : QT X C a ua) : QW X C (.BoolOp .Or [a] pos) ua := let ⟨t, p, s⟩ := ha.ex; ⟨t, pw_or1 p, s⟩
theorem snd_and {G : Gx} {ta tb : TT} (sa : SndT G ta ua) (sb : SndT G tb ub) : SndT G (tAnd ta tb) (vAnd ua ub) := fun γ M R σ H Q re h k => sa γ M _ σ H _ re h fun b M1 H1 o1 e1 h1 => by
  cases b with
  | true => rw [if_pos rfl]; exact sb γ M1 R σ H1 Q (re.mk' e1 o1) (h1.1 rfl) fun b2 M2 H2 o2 e2 h2 => k b2 M2 H2 o2 (e1.trans e2) h2
  | false => rw [if_neg Bool.false_ne_true]; exact k _ M1 H1 o1 e1 (h1.2 rfl)
theorem snd_or {G : Gx} {ta tb : TT} (sa : SndT G ta ua) (sb : SndT G tb ub) : SndT G (tOr ta tb) (vOr ua ub) := fun γ M R σ H Q re h k => sa γ M _ σ H _ re h fun b M1 H1 o1 e1 h1 => by
  cases b with
  | true => rw [if_pos rfl]; exact k _ M1 H1 o1 e1 (h1.1 rfl)
  | false => rw [if_neg Bool.false_ne_true]; exact sb γ M1 R σ H1 Q (re.mk' e1 o1) (h1.2 rfl) fun b2 M2 H2 o2 e2 h2 => k b2 M2 H2 o2 (e1.trans e2) h2
theorem qw_and (ha : QT X C a ua) (hb : QW X C (.BoolOp .And (b :: rest) pos) ub) : QW X C (.BoolOp .And (a :: b :: rest) pos) (vAnd ua ub) :=
  let ⟨_, p, s⟩ := ha.ex; let ⟨_, q, u⟩ := hb.ex; ⟨_, pw_and p q, snd_and s u⟩
theorem qw_or (ha : QT X C a ua) (hb : QW X C (.BoolOp .Or (b :: rest) pos) ub) : QW X C (.BoolOp .Or (a :: b :: rest) pos) (vOr ua ub) :=
  let ⟨_, p, s⟩ := ha.ex; let ⟨_, q, u⟩ := hb.ex; ⟨_, pw_or p q, snd_or s u⟩
theorem qt_not (ha : QT X C a ua) : QT X C (.UnaryOp .Not a pos) (vNot ua) := by
  obtain ⟨t, p, s⟩ := ha.ex
  exact ⟨_, pt_not p, fun γ M R σ H Q re h k => s γ M _ σ H _ re h fun b M1 H1 o1 e1 h1 => k _ M1 H1 o1 e1 h1⟩
def vAndV (a b : DE) : DE := fun γ M R => a γ M fun d M1 => match d with
  | .bl k => (k = true → b γ M1 R) ∧ (k = false → R (.bl false) M1)
  | _ => False
def vNotV (a : DE) : DE := fun γ M R => a γ M fun d M1 => match d with
  | .bl k => R (.bl (!k)) M1
  | _ => False
theorem q_one {op} (h : QE X C a va) : QE X C (.BoolOp op [a] pos) va := let ⟨_, p, s⟩ := h.ex; ⟨_, pe_one p, s⟩
theorem q_and (ha : QE X C a va) (hb : QE X C (.BoolOp .And (b :: rest) pos) vb) : QE X C (.BoolOp .And (a :: b :: rest) pos) (vAndV va vb) := by
  obtain ⟨ta, pa, sa⟩ := ha.ex
  obtain ⟨tb, pb, sb⟩ := hb.ex
  refine ⟨_, pe_and pa pb, fun γ M R σ H Q re h k => sa γ M _ σ H _ re h fun d M1 x H1 o1 i1 e1 h1 => ?_⟩
  cases d with
  | bl c =>
    unfold Is at i1
    refine ⟨c, i1, ?_⟩
    cases c with
    | true => rw [if_pos rfl]; exact sb γ M1 R σ H1 Q (re.mk' e1 o1) (h1.1 rfl) fun d2 M2 x2 H2 o2 i2 e2 h2 => k d2 M2 x2 H2 o2 i2 (e1.trans e2) h2
    | false => rw [if_neg Bool.false_ne_true]; exact k _ M1 _ H1 o1 is_bl e1 (h1.2 rfl)
  | _ => exact False.elim h1
theorem q_not (ha : QE X C a va) : QE X C (.UnaryOp .Not a pos) (vNotV va) := by
  obtain ⟨ta, pa, sa⟩ := ha.ex
  refine ⟨_, pe_not pa, fun γ M R σ H Q re h k => sa γ M _ σ H _ re h fun d M1 x H1 o1 i1 e1 h1 => ?_⟩
  cases d with
  | bl c => unfold Is at i1; exact ⟨c, i1, k _ M1 _ H1 o1 is_bl e1 h1⟩
  | _ => exact False.elim h1
def vIte (t : DT) (a b : DE) : DE := fun γ M R => t γ M fun k M1 => (k = true → a γ M1 R) ∧ (k = false → b γ M1 R)
theorem q_ite {e : Expr} (hc : QT X C e ua) (ha : QE X C a va) (hb : QE X C b vb) : QE X C (.IfExp e a b pos) (vIte ua va vb) := by
  obtain ⟨tc, pc, sc⟩ := hc.ex
  obtain ⟨ta, pa, sa⟩ := ha.ex
  obtain ⟨tb, pb, sb⟩ := hb.ex
  refine ⟨_, pe_ifExp pc pa pb, fun γ M R σ H Q re h k => sc γ M _ σ H _ re h fun c M1 H1 o1 e1 h1 => ?_⟩
  cases c with
  | true => rw [if_pos rfl]; exact sa γ M1 R σ H1 Q (re.mk' e1 o1) (h1.1 rfl) fun d2 M2 x2 H2 o2 i2 e2 h2 => k d2 M2 x2 H2 o2 i2 (e1.trans e2) h2
  | false => rw [if_neg Bool.false_ne_true]; exact sb γ M1 R σ H1 Q (re.mk' e1 o1) (h1.2 rfl) fun d2 M2 x2 H2 o2 i2 e2 h2 => k d2 M2 x2 H2 o2 i2 (e1.trans e2) h2
end
end Dl
namespace Dl
open PySem L2
abbrev DC := List D → Mem → DR → Prop
def SndC (G : Gx) (r : List V → Hp → VK → Prop) (o : DC) : Prop := ∀ (ds : List D) (M : Mem) (R : DR) (H : Hp) (xs : List V) (Q : VK), Own G M H → IsL G M H ds xs → o ds M R →
  (∀ d M' x H', Own G M' H' → Is G M' H' d x → Ext M M' H H' → R d M' → Q x H') → r xs H Q
def vCB (o : DC) (a : DA) : DE := fun γ M R => a γ M fun ds M1 => o ds M1 R
section
variable {X : Cx} {C : Addr} {x : Str} {p pos : Pos} {e : Expr} {es : List Expr} {va : DA} {id T : String}
theorem isL1 {G : Gx} {M : Mem} {H : Hp} {d : D} {xs : List V} (h : IsL G M H [d] xs) : ∃ v, xs = [v] ∧ Is G M H d v := by
  match xs, h with
  | [v], h => unfold IsL at h; exact ⟨v, rfl, h.1⟩
  | [], h => unfold IsL at h; exact h.elim
  | _ :: _ :: _, h => unfold IsL at h; have h2 := h.2; unfold IsL at h2; exact h2.elim
theorem isL2 {G : Gx} {M : Mem} {H : Hp} {d f : D} {xs : List V} (h : IsL G M H [d, f] xs) : ∃ v u, xs = [v, u] ∧ Is G M H d v ∧ Is G M H f u := by
  match xs, h with
  | v :: r, h =>
    unfold IsL at h
    obtain ⟨u, e, i⟩ := isL1 h.2
    exact ⟨v, u, by rw [e], h.1, i⟩
  | [], h => unfold IsL at h; exact h.elim
structure BQ (X : Cx) (C : Addr) (f : Value) (o : DC) : Prop where
  ex : ∃ r, CallR X f r ∧ SndC ⟨X.K, C⟩ r o
theorem snd_cb {G : Gx} {r : List V → Hp → VK → Prop} {o : DC} {ta : TA} (sa : SndA G ta va) (so : SndC G r o) : Snd G (tCB r ta) (vCB o va) := fun γ M R σ H Q re h k =>
  sa γ M _ σ H _ re h fun ds M1 xs H1 o1 i1 e1 h1 => so ds M1 R H1 xs Q o1 i1 h1 fun d M2 y H2 o2 i2 e2 h2 => k d M2 y H2 o2 i2 (e1.trans e2) h2
theorem q_cb {o : DC} (hc : BQ X C (.builtin id) o) (hg : Gl X x) (hm : X.mg x = none) (hv : bootBuiltins x = some (.builtin id)) (ha : QA X C (e :: es) va) (hn : x ≠ "__name__" := by decide) (hdb : (x == ("__debug__" : Str)) = false := by decide)
    (he : starEach (e :: es) X.env = (false, eval e X.env) :: starEach es X.env := by rfl) (hpl : (backTo pos (starEach es X.env)).any (·.1) = false := by rfl) : QE X C (.Call (.Name x p) (e :: es) [] pos) (vCB o va) := by
  obtain ⟨r, pr, sr⟩ := hc.ex
  obtain ⟨ta, pa, sa⟩ := ha.ex
  exact ⟨_, pe_callB pr hg hm hv pa hn hdb he hpl, snd_cb sa sr⟩
theorem q_ct {o : DC} (hc : BQ X C (.type T) o) (hg : Gl X x) (hm : X.mg x = none) (hv : bootBuiltins x = some (.type T)) (ha : QA X C (e :: es) va) (hn : x ≠ "__name__" := by decide) (hdb : (x == ("__debug__" : Str)) = false := by decide)
    (he : starEach (e :: es) X.env = (false, eval e X.env) :: starEach es X.env := by rfl) (hpl : (backTo pos (starEach es X.env)).any (·.1) = false := by rfl) : QE X C (.Call (.Name x p) (e :: es) [] pos) (vCB o va) := by
  obtain ⟨r, pr, sr⟩ := hc.ex
  obtain ⟨ta, pa, sa⟩ := ha.ex
  exact ⟨_, pe_callTy pr hg hm hv pa hn hdb he hpl, snd_cb sa sr⟩
def oC1 (g : Int → D) : DC := fun ds M R => match ds with
  | [.int i] => R (g i) M
  | _ => False
def oC2 (g : Int → Int → D) : DC := fun ds M R => match ds with
  | [.int i, .int j] => R (g i j) M
  | _ => False
theorem sndC1 {G : Gx} {g : Int → D} {gv : Int → V} (hg : ∀ i (M : Mem) (H : Hp), Is G M H (g i) (gv i)) : SndC G (fun xs H Q => ∃ i, xs = [.int i] ∧ Q (gv i) H) (oC1 g) := fun ds M R H xs Q o i1 h k => by
  match ds, h with
  | [.int i], h =>
    obtain ⟨v, e, q⟩ := isL1 i1
    unfold Is at q
    exact ⟨i, by rw [e, q], k _ M _ H o (hg i M H) Ext.refl h⟩
theorem sndC2 {G : Gx} {g : Int → Int → D} {gv : Int → Int → V} (hg : ∀ i j (M : Mem) (H : Hp), Is G M H (g i j) (gv i j)) : SndC G (fun xs H Q => ∃ i j, xs = [.int i, .int j] ∧ Q (gv i j) H) (oC2 g) := fun ds M R H xs Q o i1 h k => by
  match ds, h with
  | [.int i, .int j], h =>
    obtain ⟨v, u, e, q, q2⟩ := isL2 i1
    unfold Is at q q2
    exact ⟨i, j, by rw [e, q, q2], k _ M _ H o (hg i j M H) Ext.refl h⟩
theorem b_abs : BQ X C (.builtin "abs") (oC1 fun i => .int (if i < 0 then -i else i)) := ⟨_, call_abs, sndC1 fun _ _ _ => is_int⟩
theorem b_max2 (hc : X.calm = true := by rfl) : BQ X C (.builtin "max") (oC2 fun i j => .int (if j > i then j else i)) := ⟨_, call_max2 hc, sndC2 fun _ _ _ _ => is_int⟩
theorem b_min2 (hc : X.calm = true := by rfl) : BQ X C (.builtin "min") (oC2 fun i j => .int (if j < i then j else i)) := ⟨_, call_min2 hc, sndC2 fun _ _ _ _ => is_int⟩
def oInt : DC := fun ds M R => match ds with
  | [.int i] => R (.int i) M
  | [.bl k] => R (.int (if k then 1 else 0)) M
  | _ => False
theorem b_int : BQ X C (.type "int") oInt := ⟨_, call_int1, fun ds M R H xs Q o i1 h k => by
  match ds, h with
  | [.int i], h =>
    obtain ⟨v, e, q⟩ := isL1 i1
    unfold Is at q
    exact .inl ⟨i, by rw [e, q], k _ M _ H o is_int Ext.refl h⟩
  | [.bl i], h =>
    obtain ⟨v, e, q⟩ := isL1 i1
    unfold Is at q
    exact .inr ⟨i, by rw [e, q], k _ M _ H o is_int Ext.refl h⟩⟩
def oLen : DC := fun ds M R => match ds with
  | [.str y] => y.length ≤ sizeLine ∧ R (.int y.length) M
  | [d] => (match seqI M d with
    | some xs => R (.int xs.length) M
    | none => False)
  | _ => False
theorem len_seq {G : Gx} {M : Mem} {H : Hp} {d : D} {v : V} {ds : List D} (o : Own G M H) (h : Is G M H d v) (e : seqI M d = some ds) : LenV G.K v H ds.length := by
  obtain ⟨a, xs, e1, l, s⟩ := seq_at o h e
  rw [e1]
  rcases s with ⟨_, s⟩ | ⟨_, s⟩
  · exact .inl ⟨xs, s, l.len⟩
  · exact .inr ⟨xs, s, l.len⟩
theorem b_len : BQ X C (.builtin "len") oLen := ⟨_, call_len, fun ds M R H xs Q o i1 h k => by
  match ds, h with
  | d1 :: _ :: _, h => cases d1 <;> exact h.elim
  | [d], h =>
    obtain ⟨v, e, q⟩ := isL1 i1
    cases d with
    | str y =>
      unfold Is at q
      exact ⟨v, y.length, e, by rw [q]; exact ⟨h.1, rfl⟩, k _ M _ H o is_int Ext.refl h.2⟩
    | _ =>
      unfold oLen at h
      simp only at h
      split at h
      · rename_i ys e2
        exact ⟨v, ys.length, e, len_seq o q e2, k _ M _ H o is_int Ext.refl h⟩
      · exact h.elim⟩
def intsD : List D → Option (List Int)
  | [] => some []
  | .int i :: r => (intsD r).map (i :: ·)
  | _ => none
theorem intsD_map (ns : List Int) : intsD (ns.map D.int) = some ns := by
  induction ns with
  | nil => rfl
  | cons n r ih => show (intsD (r.map D.int)).map (n :: ·) = _; rw [ih]; rfl
theorem intsD_eq : ∀ {ds : List D} {ns : List Int}, intsD ds = some ns → ds = ns.map D.int
  | [], ns, h => by cases h; rfl
  | .int i :: r, ns, h => by
    have h' : (intsD r).map (i :: ·) = some ns := h
    cases e : intsD r with
    | none => rw [e] at h'; cases h'
    | some ms => rw [e] at h'; cases h'; rw [intsD_eq e]; rfl
theorem isL_intsV {G : Gx} {M : Mem} {H : Hp} : ∀ {ns : List Int} {xs : List V}, IsL G M H (ns.map D.int) xs → xs = ns.map V.int
  | [], [], _ => rfl
  | [], _ :: _, h => by unfold List.map IsL at h; exact h.elim
  | _ :: _, [], h => by rw [List.map_cons] at h; unfold IsL at h; exact h.elim
  | n :: ns, v :: vs, h => by
    rw [List.map_cons] at h
    unfold IsL at h
    have h1 := h.1
    unfold Is at h1
    rw [h1, isL_intsV h.2]; rfl
def intsOf (M : Mem) (d : D) : Option (List Int) := match isTup d, seqI M d with
  | false, some ds => intsD ds
  | _, _ => none
theorem ints_at {G : Gx} {M : Mem} {H : Hp} {d : D} {v : V} {ns : List Int} (o : Own G M H) (h : Is G M H d v) (e : intsOf M d = some ns) : ∃ a, v = .ref a ∧ SqL G.K H a (ns.map V.int) := by
  unfold intsOf at e
  cases q : isTup d with
  | true => rw [q] at e; cases e
  | false =>
    cases q2 : seqI M d with
    | none => rw [q, q2] at e; cases e
    | some ds =>
      rw [q, q2] at e
      have e' : intsD ds = some ns := e
      obtain ⟨a, xs, e1, l, s⟩ := seq_at o h q2
      rw [intsD_eq e'] at l
      rw [← isL_intsV l]
      rcases s with ⟨_, s⟩ | ⟨z, _⟩
      · exact ⟨a, e1, s⟩
      · rw [q] at z; cases z
def oSum : DC := fun ds M R => match ds with
  | [d] => (match intsOf M d with
    | some ns => R (.int ns.sum) M
    | none => False)
  | _ => False
inductive Ty where | non | bl | int | str | tup | lst | dct
def Ty.nm : Ty → String
  | .non => "NoneType" | .bl => "bool" | .int => "int" | .str => "str" | .tup => "tuple" | .lst => "list" | .dct => "dict"
def Ty.sub : Ty → Ty → Bool
  | .non, .non => true | .bl, .bl => true | .bl, .int => true | .int, .int => true | .str, .str => true | .tup, .tup => true | .lst, .lst => true | .dct, .dct => true
  | _, _ => false
theorem kit_sub (a b : Ty) : kitB a.nm b.nm = some (a.sub b) := by cases a <;> cases b <;> decide +kernel
def tyD : D → Option Ty
  | .non => some .non | .bl _ => some .bl | .int _ => some .int | .str _ => some .str | .tup _ => some .tup | .lst _ => some .lst | .dct _ _ => some .dct
  | _ => none
def tyM (M : Mem) : D → Option Ty
  | .own a => match M a with
    | some (.lst _) => some .lst
    | some (.dct _ _) => some .dct
    | _ => none
  | d => tyD d
theorem tyD_ok {G : Gx} {M : Mem} {H : Hp} {d : D} {v : V} {t : Ty} (o : Own G M H) (h : Is G M H d v) (e : tyD d = some t) : TyX G.K H v (.type t.nm) := by
  cases d with
  | non => cases e; unfold Is at h; rw [h]; exact .base .non
  | bl b => cases e; unfold Is at h; rw [h]; exact .base (.bl b)
  | int b => cases e; unfold Is at h; rw [h]; exact .base (.int b)
  | str b => cases e; unfold Is at h; rw [h]; exact .base (.str b)
  | tup b => cases e; unfold Is at h; obtain ⟨a, xs, e1, _, ha, _⟩ := h; rw [e1]; exact .base (.tup ha)
  | lst b => cases e; unfold Is at h; obtain ⟨a, xs, e1, _, ha, _⟩ := h; rw [e1]; exact .base (.lst ha)
  | dct ks ds => cases e; unfold Is at h; obtain ⟨a, xs, e1, _, ha, _⟩ := h; rw [e1]; exact .base (.dK ha)
  | _ => cases e
theorem tyM_ok {G : Gx} {M : Mem} {H : Hp} {d : D} {v : V} {t : Ty} (o : Own G M H) (h : Is G M H d v) (e : tyM M d = some t) : TyX G.K H v (.type t.nm) := by
  cases d with
  | own a =>
    unfold Is at h
    rw [h.1]
    unfold tyM at e
    simp only at e
    split at e
    · rename_i ds q
      cases e
      obtain ⟨_, xs, ha, _⟩ := o a _ q
      exact .base (.lst ha)
    · rename_i ks ds q
      cases e
      obtain ⟨_, _, xs, ha, _⟩ := o a _ q
      exact .base (.dK ha)
    · cases e
  | _ => exact tyD_ok o h e
def vBits (a : DE) : DE := fun γ M R => a γ M fun d M1 => match d with
  | .int i => R (.int (Builtin.Int.intBits i : Nat)) M1
  | _ => False
theorem q_bits {v : DE} {apos : Pos} (ha : QE X C e v) (hbase : attributeBase e "bit_length" X.env (eval e X.env) = eval e X.env := by rfl) (hline : (apos.endLine == pos.line) = true := by rfl) : QE X C (.Call (.Attribute e "bit_length" apos) [] [] pos) (vBits v) := by
  obtain ⟨ta, pa, sa⟩ := ha.ex
  refine ⟨_, pe_bits pa hbase hline, fun γ M R σ H Q re h k => sa γ M _ σ H _ re h fun d M1 x H1 o1 i1 e1 h1 => ?_⟩
  cases d with
  | int i => unfold Is at i1; exact ⟨i, i1, k _ M1 _ H1 o1 is_int e1 h1⟩
  | _ => exact False.elim h1
end
section
variable {X : Cx} {C : Addr} {x : Str} {p pos : Pos} {e : Expr} {es : List Expr} {va : DA} {id T : String}
def oList : DC := fun ds M R => match ds with
  | [d] => (match seqI M d with
    | some xs => R (.lst xs) M
    | none => False)
  | _ => False
def oListO : DC := fun ds M R => match ds with
  | [d] => (match seqI M d with
    | some xs => pureL xs = true ∧ ∀ p, M p = none → R (.own p) (mset M p (.lst xs))
    | none => False)
  | _ => False
theorem b_list : BQ X C (.type "list") oList := ⟨_, call_list_of, fun ds M R H xs Q o i1 h k => by
  match ds, h with
  | [d], h =>
    obtain ⟨v, e, q⟩ := isL1 i1
    unfold oList at h
    simp only at h
    split at h
    · rename_i ys e2
      obtain ⟨a, us, e3, l, s⟩ := seq_at o q e2
      refine ⟨a, us, by rw [e, e3], ?_, fun n hn => k _ M _ _ (o.new hn) (new_lst o hn l) (Ext.new hn) h⟩
      rcases s with ⟨_, s⟩ | ⟨_, s⟩
      · exact .inl s
      · exact .inr s
    · exact h.elim⟩
end
structure XD where
  cls : Str
  fld : D
abbrev DX := XD → Mem → Prop
abbrev DSp := List D → Mem → DR → DX → Prop
def noX : DX := fun _ _ => False
def spD (G : Gx) (n : Nat) (S : DSp) : Sp := fun vs H Q _ => ∃ (ds : List D) (M : Mem) (R : DR), ds.length = n ∧ IsL G M H ds vs ∧ Own G M H ∧ S ds M R noX ∧
  ∀ d M' x H', Own G M' H' → Is G M' H' d x → Ext M M' H H' → R d M' → Q x H'
def vCall (n : Nat) (S : DSp) (dd : List D) (a : DA) : DE := fun γ M R => a γ M fun ds M1 => (ds ++ dd).length = n ∧ S (ds ++ dd) M1 R noX
def constV : D → Option V
  | .non => some .non
  | .bl b => some (.bl b)
  | .int i => some (.int i)
  | .str x => some (.str x)
  | _ => none
def constL : List D → Option (List V)
  | [] => some []
  | d :: r => match constV d, constL r with
    | some v, some vs => some (v :: vs)
    | _, _ => none
theorem constV_ok {G : Gx} {M : Mem} {H : Hp} {d : D} {v : V} (h : constV d = some v) : Is G M H d v := by
  cases d with
  | non => cases h; exact is_non
  | bl b => cases h; exact is_bl
  | int b => cases h; exact is_int
  | str b => cases h; exact is_str
  | _ => cases h
theorem constL_ok {G : Gx} {M : Mem} {H : Hp} : ∀ {ds : List D} {vs : List V}, constL ds = some vs → IsL G M H ds vs
  | [], _, h => by cases h; exact IsL.nil
  | d :: r, vs, h => by
    unfold constL at h
    cases e : constV d with
    | none => rw [e] at h; cases h
    | some v =>
      cases e2 : constL r with
      | none => rw [e, e2] at h; cases h
      | some us => rw [e, e2] at h; cases h; exact IsL.cons (constV_ok e) (constL_ok e2)
theorem snd_call {G : Gx} {n : Nat} {S : DSp} {dd : List D} {dv : List V} {va : DA} {ta : TA} (hd : constL dd = some dv) (sa : SndA G ta va) : Snd G (tCall (spD G n S) dv E0 ta) (vCall n S dd va) := fun γ M R σ H Q re h k =>
  sa γ M _ σ H _ re h fun ds M1 xs H1 o1 i1 e1 h1 => ⟨ds ++ dd, M1, R, h1.1, i1.append (constL_ok hd), o1, h1.2, fun d M2 y H2 o2 i2 e2 h2 => k d M2 y H2 o2 i2 (e1.trans e2) h2⟩
section
variable {X : Cx} {C : Addr} {k n : Nat} {f : Addr} {fd : FuncData} {ps : List Str} {S : DSp} {dd : List D} {dv : List V} {ds : List Value} {x : Str} {p pos : Pos} {e : Expr} {es : List Expr} {va : DA}
theorem q_call (F : FnOk X.prog X.w X.K X.mg X.base CX0 k f fd ps (spD ⟨X.K, C⟩ n S)) (hr : Room k X.A) (hm : X.mg x = some (.ref f)) (hk : PySem.W.keepIn X.K (.ref f) = true) (hb : Binds X.K fd ps ds) (hd : Vals dv ds) (hdd : constL dd = some dv)
    (ha : QA X C (e :: es) va) (hg : Gl X x := by rfl) (hdb : (x == ("__debug__" : Str)) = false := by decide) (he : starEach (e :: es) X.env = (false, eval e X.env) :: starEach es X.env := by rfl) (hpl : (backTo pos (starEach es X.env)).any (·.1) = false := by rfl) :
    QE X C (.Call (.Name x p) (e :: es) [] pos) (vCall n S dd va) := by
  obtain ⟨ta, pa, sa⟩ := ha.ex
  exact ⟨_, pe_call F hr hg hm hk hb hd pass0 pa hdb he hpl, snd_call hdd sa⟩
def vCallK (n np nk : Nat) (S : DSp) (pick : List D → List D → List D) (a kw : DA) : DE := fun γ M R => a γ M fun ds M1 => kw γ M1 fun zs M2 => ds.length = np ∧ zs.length = nk ∧ (pick ds zs).length = n ∧ S (pick ds zs) M2 R noX
structure QK (X : Cx) (C : Addr) (kws : List Keyword) (v : DA) : Prop where
  ex : ∃ t, PK X kws t ∧ SndA ⟨X.K, C⟩ t v
theorem qk_nil : QK X C [] vNil := ⟨_, pk_nil, fun _ M R _ H Q r h k => k _ M _ H r.ow IsL.nil Ext.refl h⟩
theorem qk_cons {kws : List Keyword} {v : DE} {vr : DA} {nm kpos} (ha : QE X C e v) (hr : QK X C kws vr) : QK X C (⟨nm, e, kpos⟩ :: kws) (vCons v vr) := by
  obtain ⟨ta, pa, sa⟩ := ha.ex
  obtain ⟨tr, pr, sr⟩ := hr.ex
  exact ⟨_, pk_cons pa pr, snd_cons sa sr⟩
theorem q_callK {np : Nat} {kws : List Keyword} {ks : List Str} {g : List Value → List Value → List Value} {gV : List V → List V → List V} {pick : List D → List D → List D} {vk : DA} (F : FnOk X.prog X.w X.K X.mg X.base CX0 k f fd ps (spD ⟨X.K, C⟩ n S)) (hr : Room k X.A) (hm : X.mg x = some (.ref f)) (hk : PySem.W.keepIn X.K (.ref f) = true)
    (hb : KBn X.K fd ps np ks g gV) (hp : ∀ (M : Mem) (H : Hp) (ds zs : List D) (vs us : List V), IsL ⟨X.K, C⟩ M H ds vs → IsL ⟨X.K, C⟩ M H zs us → IsL ⟨X.K, C⟩ M H (pick ds zs) (gV vs us))
    (ha : QA X C (e :: es) va) (hkw : QK X C kws vk) (hg : Gl X x := by rfl) (hall : (backToKw pos (keywordEach kws X.env)).all (·.1.isSome) = true := by rfl) (hks : (backToKw pos (keywordEach kws X.env)).filterMap (·.1) = ks := by rfl)
    (hdb : (x == ("__debug__" : Str)) = false := by decide) (he : starEach (e :: es) X.env = (false, eval e X.env) :: starEach es X.env := by rfl)
    (hpl : ((backTo pos (starEach (e :: es) X.env)).any (·.1) || (backToKw pos (keywordEach kws X.env)).any (·.1.isNone)) = false := by rfl) :
    QE X C (.Call (.Name x p) (e :: es) kws pos) (vCallK n np ks.length S pick va vk) := by
  obtain ⟨ta, pa, sa⟩ := ha.ex
  obtain ⟨tk, pk, sk⟩ := hkw.ex
  refine ⟨_, pe_callN F hr hg hm hk hb pass0 pa pk hall hks hdb he hpl, fun γ M R σ H Q re h kk => sa γ M _ σ H _ re h fun ds M1 xs H1 o1 i1 e1 h1 => sk γ M1 _ σ H1 _ (re.mk' e1 o1) h1 fun zs M2 us H2 o2 i2 e2 h2 => ?_⟩
  obtain ⟨l1, l2, l3, hs⟩ := h2
  have i1' := IsL.ext e2 ds xs i1
  exact ⟨by rw [← i1.len]; exact l1, by rw [← i2.len]; exact l2, pick ds zs, M2, R, l3, hp M2 H2 ds zs xs us i1' i2, o2, hs, fun d M3 y H3 o3 i3 e3 h3 => kk d M3 y H3 o3 i3 ((e1.trans e2).trans e3) h3⟩
end
end Dl
namespace Dl
open PySem L2
def lift (G : Gx) (v : DE) : TE := fun σ H Q => ∃ (γ : Gm) (M : Mem) (R : DR), Rel G M γ σ H ∧ v γ M R ∧ ∀ d M' x H', Own G M' H' → Is G M' H' d x → Ext M M' H H' → R d M' → Q x H'
def liftT (G : Gx) (v : DT) : TT := fun σ H Q => ∃ (γ : Gm) (M : Mem) (R : Bool → Mem → Prop), Rel G M γ σ H ∧ v γ M R ∧ ∀ b M' H', Own G M' H' → Ext M M' H H' → R b M' → Q b H'
theorem QE.lift {X : Cx} {C : Addr} {e : Expr} {v : DE} (h : QE X C e v) : PE X e (Dl.lift ⟨X.K, C⟩ v) := by
  obtain ⟨t, p, s⟩ := h.ex
  exact ⟨fun pins s0 σ H Q I ⟨γ, M, R, re, hv, k⟩ => p.run pins s0 σ H Q I (s γ M R σ H Q re hv k)⟩
theorem QT.lift {X : Cx} {C : Addr} {e : Expr} {v : DT} (h : QT X C e v) : PT X e (liftT ⟨X.K, C⟩ v) := by
  obtain ⟨t, p, s⟩ := h.ex
  exact ⟨fun pins s0 σ H Q I ⟨γ, M, R, re, hv, k⟩ => p.run pins s0 σ H Q I (s γ M R σ H Q re hv k)⟩
def noFld (c : Str) : Bool := c == "NotRising" || c == "NothingToUndo"
def XIs (G : Gx) (M : Mem) (H : Hp) (x : XD) (cls : Value) (d : Option Addr) : Prop :=
  cls = .ref (He.ga G.K x.cls) ∧ PySem.W.exmOne G.K cls (.ref (He.ga G.K "FourTestsError")) = some true ∧
    ((noFld x.cls = true ∧ d = none) ∨ (noFld x.cls = false ∧ ∃ dd u, d = some dd ∧ M dd = none ∧ H dd = some (.xd [(fldN x.cls, u)]) ∧ Is G M H x.fld u))
def wX (X : Cx) : WX := fun cls d σ H => ∀ (u : Value) (s' : Shared) (a : Addr) (B : Heap) (sI : Shared) (pins : List (Addr × Obj)), u = .ref a → Inv X pins σ H sI → (∀ b o, sI.heap.get? b = some o → b ∉ frs X.stack → B.get? b = some o) → sI.heap.UpToSlots s'.heap →
  Sky B X.stack a (Zc cls d) X.env.locals s'.heap → H a = none → s'.os = sI.os → PyProof.Rows.AllBare s'.gens → X.xe u s'
theorem takes_wX {X : Cx} : Takes X (wX X) := fun u s' ⟨a, B, sI, pins, σ, H, cls, d, e, I, nb, up, sky, na, os, ag, w⟩ => w u s' a B sI pins e I nb up sky na os ag
theorem wX_of {X : Cx} {W : WX} (tk : Takes X W) {cls : Value} {d : Option Addr} {σ : St} {H : Hp} (h : W cls d σ H) : wX X cls d σ H := fun u s' a B sI pins e I nb up sky na os ag => tk u s' ⟨a, B, sI, pins, σ, H, cls, d, e, I, nb, up, sky, na, os, ag, h⟩
structure DEnds where
  nx : Gm → Mem → Prop
  rt : DR
  bk : Gm → Mem → Prop := fun _ _ => False
  ct : Gm → Mem → Prop := fun _ _ => False
  xx : Gm → XD → Mem → Prop := fun _ _ _ => False
abbrev DS := DEnds → Gm → Mem → Prop
structure Lk (X : Cx) (C : Addr) (M : Mem) (H : Hp) (Ed : DEnds) (E : Ends) : Prop where
  nx : ∀ γ M' σ H', Rel ⟨X.K, C⟩ M' γ σ H' → Ext M M' H H' → Ed.nx γ M' → E.nx σ H'
  rt : ∀ d M' x H', Own ⟨X.K, C⟩ M' H' → Is ⟨X.K, C⟩ M' H' d x → Ext M M' H H' → Ed.rt d M' → E.rt x H'
  bk : ∀ γ M' σ H', Rel ⟨X.K, C⟩ M' γ σ H' → Ext M M' H H' → Ed.bk γ M' → E.bk σ H'
  ct : ∀ γ M' σ H', Rel ⟨X.K, C⟩ M' γ σ H' → Ext M M' H H' → Ed.ct γ M' → E.ct σ H'
  xx : ∀ γ M' σ H' xd cls d, Rel ⟨X.K, C⟩ M' γ σ H' → XIs ⟨X.K, C⟩ M' H' xd cls d → Ext M M' H H' → Ed.xx γ xd M' → wX X cls d σ H'
theorem Lk.ext {X : Cx} {C : Addr} {M M1 : Mem} {H H1 : Hp} {Ed : DEnds} {E : Ends} (l : Lk X C M H Ed E) (x : Ext M M1 H H1) : Lk X C M1 H1 Ed E :=
  ⟨fun γ M' σ H' r e => l.nx γ M' σ H' r (x.trans e), fun d M' v H' o i e => l.rt d M' v H' o i (x.trans e), fun γ M' σ H' r e => l.bk γ M' σ H' r (x.trans e), fun γ M' σ H' r e => l.ct γ M' σ H' r (x.trans e), fun γ M' σ H' xd cls d r i e => l.xx γ M' σ H' xd cls d r i (x.trans e)⟩
def SndS (X : Cx) (C : Addr) (t : TS) (v : DS) : Prop := ∀ (Ed : DEnds) (γ : Gm) (M : Mem) (σ : St) (H : Hp) (E : Ends), Rel ⟨X.K, C⟩ M γ σ H → Lk X C M H Ed E → v Ed γ M → t E σ H
structure QS (X : Cx) (C : Addr) (st : Stmt) (v : DS) : Prop where
  ex : ∃ t, PS X st t ∧ SndS X C t v
structure QSs (X : Cx) (C : Addr) (st : List Stmt) (v : DS) : Prop where
  ex : ∃ t, PSs X st t ∧ SndS X C t v
def vNext : DS := fun Ed γ M => Ed.nx γ M
def vSeq (a b : DS) : DS := fun Ed γ M => a { Ed with nx := b Ed } γ M
section
variable {X : Cx} {C : Addr} {st : Stmt} {rest : List Stmt} {v u : DS} {e : Expr} {ve : DE} {pos : Pos}
theorem qss_nil : QSs X C [] vNext := ⟨_, pss_nil, fun Ed γ M σ H E r l h => l.nx γ M σ H r Ext.refl h⟩
theorem snd_seq {t t2 : TS} (s1 : SndS X C t v) (s2 : SndS X C t2 u) : SndS X C (tSeq t t2) (vSeq v u) := fun Ed γ M σ H E r l h =>
  s1 { Ed with nx := u Ed } γ M σ H { E with nx := t2 E } r ⟨fun γ' M' σ' H' r' e' h' => s2 Ed γ' M' σ' H' E r' (l.ext e') h', l.rt, l.bk, l.ct, l.xx⟩ h
theorem qss_cons (h1 : QS X C st v) (h2 : QSs X C rest u) : QSs X C (st :: rest) (vSeq v u) :=
  let ⟨_, p, s⟩ := h1.ex; let ⟨_, p2, s2⟩ := h2.ex; ⟨_, pss_cons p p2, snd_seq s s2⟩
theorem qss_one (h1 : QS X C st v) : QSs X C [st] v := let ⟨_, p, s⟩ := h1.ex; ⟨_, pss_one p, s⟩
def vBreak : DS := fun Ed γ M => Ed.bk γ M
theorem qs_break : QS X C (.Break pos) vBreak := ⟨_, ps_break, fun Ed γ M σ H E r l h => l.bk γ M σ H r Ext.refl h⟩
def vDrop (a : DE) : DS := fun Ed γ M => a γ M fun _ M1 => Ed.nx γ M1
theorem qs_expr (he : QE X C e ve) (hs : swapsWith e none pos.line X.env = pure false := by rfl) : QS X C (.Expr e pos) (vDrop ve) :=
  let ⟨_, p, s⟩ := he.ex; ⟨_, ps_expr p hs, fun Ed γ M σ H E r l h => s γ M _ σ H _ r h fun d M1 x H1 o1 i1 e1 h1 => l.nx γ M1 σ H1 (r.mk' e1 o1) e1 h1⟩
def vRet (a : DE) : DS := fun Ed γ M => a γ M Ed.rt
theorem qs_ret (he : QE X C e ve) : QS X C (.Return (some e) pos) (vRet ve) :=
  let ⟨_, p, s⟩ := he.ex; ⟨_, ps_ret p, fun Ed γ M σ H E r l h => s γ M _ σ H _ r h fun d M1 x H1 o1 i1 e1 h1 => l.rt d M1 x H1 o1 i1 e1 h1⟩
def vIf (c : DT) (a b : DS) : DS := fun Ed γ M => c γ M fun k M1 => (k = true → a Ed γ M1) ∧ (k = false → b Ed γ M1)
theorem qs_if {c : Expr} {a b : List Stmt} {vc : DT} (hc : QT X C c vc) (ha : QSs X C a v) (hb : QSs X C b u) : QS X C (.If c a b pos) (vIf vc v u) := by
  obtain ⟨tc, pc, sc⟩ := hc.ex
  obtain ⟨ta, pa, sa⟩ := ha.ex
  obtain ⟨tb, pb, sb⟩ := hb.ex
  refine ⟨_, ps_if pc pa pb, fun Ed γ M σ H E r l h => sc γ M _ σ H _ r h fun k M1 H1 o1 e1 h1 => ?_⟩
  cases k with
  | true => rw [if_pos rfl]; exact sa Ed γ M1 σ H1 E (r.mk' e1 o1) (l.ext e1) (h1.1 rfl)
  | false => rw [if_neg Bool.false_ne_true]; exact sb Ed γ M1 σ H1 E (r.mk' e1 o1) (l.ext e1) (h1.2 rfl)
def vNever : DS := fun _ _ _ => False
theorem qs_never : QS X C st vNever := ⟨_, ps_never, fun _ _ _ _ _ _ _ _ h => h.elim⟩
theorem qss_never {sts : List Stmt} : QSs X C sts vNever := ⟨_, pss_never, fun _ _ _ _ _ _ _ _ h => h.elim⟩
abbrev DG := D → Gm → Mem → (Gm → Mem → Prop) → Prop
abbrev DGs := List D → Gm → Mem → (Gm → Mem → Prop) → Prop
def SndG (G : Gx) (t : TG) (g : DG) : Prop := ∀ (d : D) (γ : Gm) (M : Mem) (R : Gm → Mem → Prop) (σ : St) (H : Hp) (x : V) (Q : St → Hp → Prop), Rel G M γ σ H → Is G M H d x → g d γ M R →
  (∀ γ' M' σ' H', Rel G M' γ' σ' H' → Ext M M' H H' → R γ' M' → Q σ' H') → t x σ H Q
def SndGs (G : Gx) (t : TGs) (g : DGs) : Prop := ∀ (ds : List D) (γ : Gm) (M : Mem) (R : Gm → Mem → Prop) (σ : St) (H : Hp) (xs : List V) (Q : St → Hp → Prop), Rel G M γ σ H → IsL G M H ds xs → g ds γ M R →
  (∀ γ' M' σ' H', Rel G M' γ' σ' H' → Ext M M' H H' → R γ' M' → Q σ' H') → t xs σ H Q
structure QG (X : Cx) (C : Addr) (tg : Expr) (g : DG) : Prop where
  ex : ∃ t, PG X tg t ∧ SndG ⟨X.K, C⟩ t g
structure QGs (X : Cx) (C : Addr) (tg : List Expr) (g : DGs) : Prop where
  ex : ∃ t, PGs X tg t ∧ SndGs ⟨X.K, C⟩ t g
def dName (i : Nat) : DG := fun d γ M R => R (gset γ i (some d)) M
theorem sndG_name {G : Gx} {i : Nat} : SndG G (gName i) (dName i) := fun d γ M R σ H x Q r i1 h k => k _ M _ H ⟨r.sl.set i1, r.ow⟩ Ext.refl h
theorem qg_name {i : Nat} {x : Str} (hN : X.N.Nodup) (hi : X.N[i]? = some x := by rfl) (hx : Loc X.env.scope x := by first | exact Or.inl rfl | exact Or.inr rfl) (hf : X.fn x = true ∨ X.env.scope.names.lookup x = some .local := by first | exact .inl rfl | exact .inr rfl | assumption) : QG X C (.Name x pos) (dName i) :=
  ⟨_, pg_name hN hi hx hf, sndG_name⟩
def dNil : DGs := fun ds γ M R => match ds with
  | [] => R γ M
  | _ => False
def dCons (g : DG) (gs : DGs) : DGs := fun ds γ M R => match ds with
  | d :: r => g d γ M fun γ' M' => gs r γ' M' R
  | [] => False
theorem qgs_nil : QGs X C [] dNil := ⟨_, pgs_nil, fun ds γ M R σ H xs Q r i1 h k => by
  match ds, xs, i1, h with
  | [], [], _, h => exact ⟨rfl, k γ M σ H r Ext.refl h⟩
  | [], _ :: _, i1, _ => unfold IsL at i1; exact i1.elim⟩
theorem qgs_cons {es : List Expr} {g : DG} {gs : DGs} (h1 : QG X C e g) (h2 : QGs X C es gs) (hs : (assignEach (e :: es) X.env).map (·.2) = assign e X.env :: (assignEach es X.env).map (·.2) := by rfl) : QGs X C (e :: es) (dCons g gs) := by
  obtain ⟨t, p, s⟩ := h1.ex
  obtain ⟨t2, p2, s2⟩ := h2.ex
  refine ⟨_, pgs_cons p p2 hs, fun ds γ M R σ H xs Q r i1 h k => ?_⟩
  match ds, xs, i1, h with
  | d :: ds, x :: xs, i1, h =>
    unfold IsL at i1
    exact ⟨x, xs, rfl, s d γ M _ σ H x _ r i1.1 h fun γ' M' σ' H' r' e' h' => s2 ds γ' M' R σ' H' xs Q r' (IsL.ext e' ds xs i1.2) h' fun γ2 M2 σ2 H2 r2 e2 h2 => k γ2 M2 σ2 H2 r2 (e'.trans e2) h2⟩
  | _ :: _, [], i1, _ => unfold IsL at i1; exact i1.elim
def dTup (n : Nat) (gs : DGs) : DG := fun d γ M R => match d with
  | .tup ds => ds.length = n ∧ gs ds γ M R
  | _ => False
theorem qg_tup {es : List Expr} {k : Nat} {gs : DGs} {n : Nat} (h : QGs X C es gs) (hc : X.calm = true := by rfl) (hn : (assignEach es X.env).length = n := by rfl) (hst : (assignEach es X.env).findIdx? (·.1) = none := by rfl) : QG X C (.Tuple es k pos) (dTup n gs) := by
  obtain ⟨t, p, s⟩ := h.ex
  refine ⟨_, pg_tup hc p hn hst, fun d γ M R σ H x Q r i1 h k => ?_⟩
  cases d with
  | tup ds =>
    have i2 := i1
    unfold Is at i2
    obtain ⟨a, xs, e1, m, ha, hl⟩ := i2
    exact ⟨a, xs, e1, SqT.of ha, by rw [← hl.len]; exact h.1, s ds γ M R σ H xs Q r hl h.2 k⟩
  | _ => exact False.elim h
def dSub (o i : DE) : DG := fun d γ M R => o γ M fun od M1 => i γ M1 fun id M2 => match od, id with
  | .own a, .int k => (match M2 a with
    | some (.lst ds) => pureD d = true ∧ ∃ j, ixN ds.length k = some j ∧ R γ (mset M2 a (.lst (ds.set j d)))
    | _ => False)
  | _, _ => False
theorem pureL_set : ∀ {ds : List D} {j : Nat} {d : D}, pureL ds = true → pureD d = true → pureL (ds.set j d) = true
  | [], _, _, _, _ => by simp [pureL]
  | x :: r, 0, d, h, hd => by
    unfold pureL at h
    rw [Bool.and_eq_true] at h
    show pureL (d :: r) = true
    unfold pureL
    rw [hd, h.2]; rfl
  | x :: r, j + 1, d, h, hd => by
    unfold pureL at h
    rw [Bool.and_eq_true] at h
    show pureL (x :: r.set j d) = true
    unfold pureL
    rw [h.1, pureL_set h.2 hd]; rfl
theorem pureL_append : ∀ {ds es : List D}, pureL ds = true → pureL es = true → pureL (ds ++ es) = true
  | [], _, _, h => h
  | x :: r, es, h, he => by
    unfold pureL at h
    rw [Bool.and_eq_true] at h
    show pureL (x :: (r ++ es)) = true
    unfold pureL
    rw [h.1, pureL_append h.2 he]; rfl
theorem qg_sub {o i : Expr} {vo vi : DE} (ho : QE X C o vo) (hi : QE X C i vi)
    (ha : ∀ v, assign (.Subscript o i pos) X.env v = (do
      let ov ← holding [v] (eval o X.env)
      let iv ← holding [v, ov] (eval i X.env)
      standAt pos
      holding [v, ov, iv] (setItem ov iv v)
      release [v, ov, iv] []) := by intro _; rfl) : QG X C (.Subscript o i pos) (dSub vo vi) := by
  obtain ⟨to, po, so⟩ := ho.ex
  obtain ⟨ti, pi, si⟩ := hi.ex
  refine ⟨_, pg_sub po pi set_list ha, fun d γ M R σ H x Q r i1 h k => so γ M _ σ H _ r h fun od M1 ox H1 o1 j1 e1 h1 => si γ M1 _ σ H1 _ (r.mk' e1 o1) h1 fun id M2 ix H2 o2 j2 e2 h2 => ?_⟩
  cases od with
  | own a =>
    cases id with
    | int z =>
      have ja := Is.ext e2 _ _ j1
      unfold Is at ja j2
      cases q : M2 a with
      | none => simp only [q] at h2
      | some m =>
        cases m with
        | lst ds =>
          simp only [q] at h2
          obtain ⟨pd, j, hj, hr⟩ := h2
          obtain ⟨pu, xs, ha, hl⟩ := o2 a _ q
          refine ⟨a, xs, z, j, ja.1, j2, ha, by rw [← hl.len]; exact hj, ?_⟩
          have x12 := e1.trans e2
          have is2 := Is.ext x12 d x i1
          exact k γ (mset M2 a (.lst (ds.set j d))) σ _ ⟨(r.sl.ext x12).ext (Ext.put ja.2), o2.put ja.2 (pureL_set pu pd) (hl.set is2)⟩ (x12.trans (Ext.put ja.2)) hr
        | _ => simp only [q] at h2
    | _ => exact False.elim h2
  | _ => exact False.elim h2
def vAsg (a : DE) (g : DG) : DS := fun Ed γ M => a γ M fun d M1 => g d γ M1 Ed.nx
theorem snd_asg {ta : TE} {tg : TG} {g : DG} (sa : Snd ⟨X.K, C⟩ ta ve) (sg : SndG ⟨X.K, C⟩ tg g) : SndS X C (tAsg ta tg) (vAsg ve g) := fun Ed γ M σ H E r l h =>
  sa γ M _ σ H _ r h fun d M1 x H1 o1 i1 e1 h1 => sg d γ M1 _ σ H1 x _ (r.mk' e1 o1) i1 h1 fun γ' M' σ' H' r' e' h' => l.nx γ' M' σ' H' r' (e1.trans e') h'
theorem qs_asg {tg : Expr} {g : DG} (he : QE X C e ve) (hg : QG X C tg g) (hs : swapsWithSole [tg] e pos.line X.env = pure false := by rfl) (hw : swappedStores [tg] e X.env = pure none := by rfl)
    (h1 : (assignEach [tg] X.env).map (·.2) = [assign tg X.env] := by rfl) : QS X C (.Assign [tg] e pos) (vAsg ve g) :=
  let ⟨_, p, s⟩ := he.ex; let ⟨_, p2, s2⟩ := hg.ex; ⟨_, ps_asg p p2 hs hw h1, snd_asg s s2⟩
theorem qs_set {i : Nat} {x : Str} {pos' : Pos} (hN : X.N.Nodup) (he : QE X C e ve) (hi : X.N[i]? = some x := by rfl) (hx : Loc X.env.scope x := by first | exact Or.inl rfl | exact Or.inr rfl) (hs : swapsWith e (some (.Name x pos')) pos.line X.env = pure false := by rfl) (hf : X.fn x = true ∨ X.env.scope.names.lookup x = some .local := by first | exact .inl rfl | exact .inr rfl | assumption) :
    QS X C (.Assign [.Name x pos'] e pos) (vAsg ve (dName i)) :=
  let ⟨_, p, s⟩ := he.ex; ⟨_, ps_set hN hi hx p hs hf, snd_asg s sndG_name⟩
def vPar (i j : Nat) (a : DA) : DS := fun Ed γ M => a γ M fun ds M1 => match ds with
  | [x, y] => Ed.nx (gset (gset γ i (some x)) j (some y)) M1
  | _ => False
theorem qs_par {i j : Nat} {x y : Str} {a b : Expr} {va : DA} {px py pt : Pos} {kt k2 pt2} (hN : X.N.Nodup) (ha : QA X C [a, b] va) (hi : X.N[i]? = some x := by rfl) (hj : X.N[j]? = some y := by rfl) (hij : i ≠ j := by decide)
    (hx : X.env.scope.names.lookup x = some .local := by rfl) (hy : X.env.scope.names.lookup y = some .local := by rfl) (hc : X.calm = true := by rfl)
    (hw : swappedStores [.Tuple [.Name x px, .Name y py] kt pt] (.Tuple [a, b] k2 pt2) X.env = pure (some [x, y]) := by rfl)
    (hs : swapsWithSole [.Tuple [.Name x px, .Name y py] kt pt] (.Tuple [a, b] k2 pt2) pos.line X.env = pure false := by rfl) :
    QS X C (.Assign [.Tuple [.Name x px, .Name y py] kt pt] (.Tuple [a, b] k2 pt2) pos) (vPar i j va) := by
  obtain ⟨ta, pa, sa⟩ := ha.ex
  refine ⟨_, ps_par hc hN hi hj hij hx hy pa hw hs, fun Ed γ M σ H E r l h => sa γ M _ σ H _ r h fun ds M1 xs H1 o1 i1 e1 h1 => ?_⟩
  match ds, h1 with
  | [d, f], h1 =>
    obtain ⟨v, w, e2, q1, q2⟩ := isL2 i1
    exact ⟨v, w, e2, l.nx _ M1 _ H1 ⟨((r.sl.ext e1).set q1).set q2, o1⟩ e1 h1⟩
def vAug (i : Nat) (f : Int → Int → Int) (a : DE) : DS := fun Ed γ M => match gt γ i with
  | some (.int x) => a γ M fun d M1 => (match d with
    | .int y => Ed.nx (gset γ i (some (.int (f x y)))) M1
    | _ => False)
  | _ => False
theorem qs_augG {i : Nat} {x : Str} {op : Operator} {f : Int → Int → Int} {pos' : Pos} (ho : PIp X op (ipI f)) (hN : X.N.Nodup) (he : QE X C e ve) (hi : X.N[i]? = some x := by rfl) (hx : Loc X.env.scope x := by first | exact Or.inl rfl | exact Or.inr rfl) (hf : X.fn x = true ∨ X.env.scope.names.lookup x = some .local := by first | exact .inl rfl | exact .inr rfl | assumption) :
    QS X C (.AugAssign (.Name x pos') op e pos) (vAug i f ve) := by
  obtain ⟨t, p, s⟩ := he.ex
  refine ⟨_, ps_aug hN hi hx p ho hf, fun Ed γ M σ H E r l h => ?_⟩
  unfold vAug at h
  split at h
  · rename_i z q
    obtain ⟨v, h1, h2⟩ := r.sl.get q
    unfold Is at h2
    refine ⟨v, h1, s γ M _ σ H _ r h fun d M1 y H1 o1 i1 e1 h3 => ?_⟩
    split at h3
    · rename_i w
      unfold Is at i1
      exact ⟨z, w, h2, i1, l.nx _ M1 _ H1 ⟨(r.sl.ext e1).set is_int, o1⟩ e1 h3⟩
    · exact h3.elim
  · exact h.elim
def vWhile (c : DT) (b : DS) : DS := fun Ed γ M => ∃ W : Nat → Gm → Mem → Prop, (∃ m, W m γ M) ∧ ∀ m γ' M', W m γ' M' →
  c γ' M' fun k M1 => (k = true → b { Ed with nx := fun γ2 M2 => ∃ m2, m2 < m ∧ W m2 γ2 M2, ct := fun γ2 M2 => ∃ m2, m2 < m ∧ W m2 γ2 M2, bk := Ed.nx } γ' M1) ∧ (k = false → Ed.nx γ' M1)
theorem qs_while {c : Expr} {body : List Stmt} {vc : DT} (hc : QT X C c vc) (hb : QSs X C body v) (hp : PassesOwn (model X.prog X.w) X.A X.env X.xe := by first | exact PassesOwn.never | exact passes_of rfl | assumption) : QS X C (.While c body [] pos) (vWhile vc v) := by
  obtain ⟨tc, pc, sc⟩ := hc.ex
  obtain ⟨tb, pb, sb⟩ := hb.ex
  refine ⟨_, ps_while hp pc pb, fun Ed γ M σ H E r l h => ?_⟩
  obtain ⟨W, ⟨m0, w0⟩, turn⟩ := h
  refine ⟨fun m σ' H' => ∃ γ' M', Rel ⟨X.K, C⟩ M' γ' σ' H' ∧ Ext M M' H H' ∧ W m γ' M', ⟨m0, γ, M, r, Ext.refl, w0⟩, ?_⟩
  rintro m σ' H' ⟨γ', M', r', e', w'⟩
  refine sc γ' M' _ σ' H' _ r' (turn m γ' M' w') fun k M1 H1 o1 e1 h1 => ?_
  cases k with
  | true =>
    rw [if_pos rfl]
    refine ⟨fun σ2 H2 => ∃ m2, m2 < m ∧ ∃ γ2 M2, Rel ⟨X.K, C⟩ M2 γ2 σ2 H2 ∧ Ext M M2 H H2 ∧ W m2 γ2 M2, fun σ2 H2 ⟨m2, hm, q⟩ => ⟨m2, hm, q⟩, ?_⟩
    refine sb _ γ' M1 σ' H1 _ (r'.mk' e1 o1) ⟨?_, ?_, ?_, ?_, ?_⟩ (h1.1 rfl)
    · rintro γ2 M2 σ2 H2 r2 e2 ⟨m2, hm, w2⟩
      exact ⟨m2, hm, γ2, M2, r2, (e'.trans e1).trans e2, w2⟩
    · exact (l.ext (e'.trans e1)).rt
    · exact (l.ext (e'.trans e1)).nx
    · rintro γ2 M2 σ2 H2 r2 e2 ⟨m2, hm, w2⟩
      exact ⟨m2, hm, γ2, M2, r2, (e'.trans e1).trans e2, w2⟩
    · exact (l.ext (e'.trans e1)).xx
  | false =>
    rw [if_neg Bool.false_ne_true]
    exact l.nx γ' M1 σ' H1 (r'.mk' e1 o1) (e'.trans e1) (h1.2 rfl)
end
structure ItD where
  its : List D
  st : Mem → Prop
def ItR (G : Gx) (M1 : Mem) (H1 : Hp) (J : It) (j : ItD) : Prop := ∀ (M : Mem) (H : Hp), Ext M1 M H1 H → Own G M H → j.st M → ∀ i : Nat,
  (∀ d, j.its[i]? = some d → J.go i H ∧ ∀ x H', J.yld i H x H' → Own G M H' ∧ Is G M H' d x ∧ Ext M M H H') ∧ (j.its.length ≤ i → J.stop i H)
abbrev DI := Gm → Mem → (ItD → Mem → Prop) → Prop
def SndI (G : Gx) (wi : TI) (v : DI) : Prop := ∀ (γ : Gm) (M : Mem) (R : ItD → Mem → Prop) (σ : St) (H : Hp) (Q : It → Hp → Prop), Rel G M γ σ H → v γ M R →
  (∀ j J M' H', Own G M' H' → Ext M M' H H' → ItR G M' H' J j → R j M' → Q J H') → wi σ H Q
structure QI (X : Cx) (C : Addr) (tg iter : Expr) (v : DI) : Prop where
  ex : ∃ wi, PI X tg iter wi ∧ SndI ⟨X.K, C⟩ wi v
section
variable {X : Cx} {C : Addr} {tg : Expr} {e : Expr} {ve : DE} {pos : Pos}
def liD (d : D) (ds : List D) : ItD := ⟨ds, fun M => seqI M d = some ds⟩
def wList (a : DE) : DI := fun γ M R => a γ M fun d M1 => match isTup d, seqI M1 d with
  | false, some ds => R (liD d ds) M1
  | _, _ => False
theorem qi_list (he : QE X C e ve) : QI X C tg e (wList ve) := by
  obtain ⟨t, p, s⟩ := he.ex
  refine ⟨_, pi_list p, fun γ M R σ H Q r h k => s γ M _ σ H _ r h fun d M1 x H1 o1 i1 e1 h1 => ?_⟩
  cases q : isTup d with
  | true => rw [q] at h1; exact h1.elim
  | false =>
    cases q2 : seqI M1 d with
    | none => rw [q, q2] at h1; exact h1.elim
    | some ds =>
      rw [q, q2] at h1
      obtain ⟨a, xs, ex, l, sq⟩ := seq_at o1 i1 q2
      rcases sq with ⟨_, sq⟩ | ⟨z, _⟩
      · refine ⟨a, ex, ⟨xs, sq⟩, k _ _ M1 H1 o1 e1 ?_ h1⟩
        intro M' H' x' o' st i
        obtain ⟨a', xs', ex', l', sq'⟩ := seq_at o' (Is.ext x' d x i1) st
        have ea : a' = a := by rw [ex] at ex'; cases ex'; rfl
        subst ea
        rcases sq' with ⟨_, sq'⟩ | ⟨z, _⟩
        · refine ⟨fun d' hd => ?_, fun hn => ⟨xs', sq', by rw [← l'.len]; exact hn⟩⟩
          obtain ⟨v, hv, iv⟩ := l'.get hd
          refine ⟨⟨xs', v, sq', hv⟩, fun y H2 hy => ?_⟩
          obtain ⟨eH, hy⟩ := hy
          subst eH
          have ey := hy xs' sq'
          rw [hv] at ey
          cases ey
          exact ⟨o', iv, Ext.refl⟩
        · rw [q] at z; cases z
      · rw [q] at z; cases z
def wTup (a : DE) : DI := fun γ M R => a γ M fun d M1 => match d with
  | .tup ds => R ⟨ds, fun _ => True⟩ M1
  | _ => False
theorem qi_tup (he : QE X C e ve) : QI X C tg e (wTup ve) := by
  obtain ⟨t, p, s⟩ := he.ex
  refine ⟨_, pi_tup p, fun γ M R σ H Q r h k => s γ M _ σ H _ r h fun d M1 x H1 o1 i1 e1 h1 => ?_⟩
  cases d with
  | tup ds =>
    have i2 := i1
    unfold Is at i2
    obtain ⟨a, xs, ex, m, ha, hl⟩ := i2
    refine ⟨a, ex, ⟨xs, SqT.of ha⟩, k _ _ M1 H1 o1 e1 ?_ h1⟩
    intro M' H' x' o' st i
    have ha' : H' a = some (.tup xs) := (x'.st a _ m ha).1
    have l' := IsL.ext x' ds xs hl
    refine ⟨fun d' hd => ?_, fun hn => ⟨xs, SqT.of ha', by rw [← l'.len]; exact hn⟩⟩
    obtain ⟨v, hv, iv⟩ := l'.get hd
    refine ⟨⟨xs, v, SqT.of ha', hv⟩, fun y H2 hy => ?_⟩
    obtain ⟨eH, hy⟩ := hy
    subst eH
    have ey := hy xs (SqT.of ha')
    rw [hv] at ey
    cases ey
    exact ⟨o', iv, Ext.refl⟩
  | _ => exact False.elim h1
def rngD (lo : Int) (n : Nat) : List D := (List.range n).map fun (i : Nat) => D.int (lo + (i : Int))
theorem rngD_get (lo : Int) (n i : Nat) (d : D) : (rngD lo n)[i]? = some d ↔ i < n ∧ d = .int (lo + i) := by
  unfold rngD
  rw [List.getElem?_map]
  by_cases h : i < n
  · rw [List.getElem?_range h]
    simp [h, eq_comm]
  · have e : (List.range n)[i]? = none := by simp; omega
    rw [e]; simp [h]
theorem rngD_len (lo : Int) (n : Nat) : (rngD lo n).length = n := by simp [rngD]
theorem itR_rng {G : Gx} {M1 : Mem} {H1 : Hp} {lo : Int} {n : Nat} : ItR G M1 H1 (Itr lo n) ⟨rngD lo n, fun _ => True⟩ := by
  intro M H x o st i
  refine ⟨fun d hd => ?_, fun hn => by rw [rngD_len] at hn; exact hn⟩
  obtain ⟨hi, ed⟩ := (rngD_get lo n i d).mp hd
  refine ⟨hi, fun y H' hy => ?_⟩
  obtain ⟨eH, ey⟩ := hy
  subst eH
  rw [ed, ey]
  exact ⟨o, is_int, Ext.refl⟩
def wRng1 (a : DA) : DI := fun γ M R => a γ M fun ds M1 => match ds with
  | [.int j] => -(2 ^ 62) ≤ j ∧ j < 2 ^ 62 ∧ R ⟨rngD 0 j.toNat, fun _ => True⟩ M1
  | _ => False
section
variable {X : Cx} {tg : Expr}
end
theorem qi_rng1 {va : DA} {p : Pos} (hm : X.mg "range" = none) (ha : QA X C [e] va) (hg : Gl X "range" := by rfl) (hs : starEach [e] X.env = [(false, eval e X.env)] := by rfl) : QI X C tg (.Call (.Name "range" p) [e] [] pos) (wRng1 va) := by
  obtain ⟨t, p, s⟩ := ha.ex
  refine ⟨_, pi_range1 hg hm p hs, fun γ M R σ H Q r h k => s γ M _ σ H _ r h fun ds M1 xs H1 o1 i1 e1 h1 => ?_⟩
  match ds, h1 with
  | [.int j], h1 =>
    obtain ⟨v, ev, q⟩ := isL1 i1
    unfold Is at q
    exact ⟨j, by rw [ev, q], h1.1, h1.2.1, k _ _ M1 H1 o1 e1 itR_rng h1.2.2⟩
def vFor (w : DI) (g : DG) (b : DS) : DS := fun Ed γ M => w γ M fun j M1 => ∃ W : Nat → Gm → Mem → Prop, W 0 γ M1 ∧ (∀ i γ' M', W i γ' M' → j.st M') ∧
  (∀ i d γ' M', W i γ' M' → j.its[i]? = some d → g d γ' M' fun γ2 M2 => b { Ed with nx := W (i + 1), ct := W (i + 1), bk := Ed.nx } γ2 M2) ∧ (∀ γ' M', W j.its.length γ' M' → Ed.nx γ' M')
theorem qs_for {iter : Expr} {body : List Stmt} {w : DI} {g : DG} {v : DS} (hi : QI X C tg iter w) (hg : QG X C tg g) (hb : QSs X C body v) (hp : PassesOwn (model X.prog X.w) X.A X.env X.xe := by first | exact PassesOwn.never | exact passes_of rfl | assumption) (hc : X.calm = true := by rfl) (hs : ∀ x, foldedSetIterable iter X.env x = pure x := by intro _; rfl) : QS X C (.For tg iter body [] pos) (vFor w g v) := by
  obtain ⟨wi, pi, si⟩ := hi.ex
  obtain ⟨tg', pg, sg⟩ := hg.ex
  obtain ⟨tb, pb, sb⟩ := hb.ex
  refine ⟨_, ps_for hp hc pi pg pb hs, fun Ed γ M σ H E r l h => si γ M _ σ H _ r h fun j J M1 H1 o1 e1 ir h1 => ?_⟩
  obtain ⟨W, w0, wst, step, fin⟩ := h1
  refine ⟨fun i m σ' H' => m = j.its.length - i ∧ i ≤ j.its.length ∧ ∃ γ' M', Rel ⟨X.K, C⟩ M' γ' σ' H' ∧ Ext M1 M' H1 H' ∧ W i γ' M', ⟨j.its.length, by simp, Nat.zero_le _, γ, M1, r.mk' e1 o1, Ext.refl, w0⟩, ?_⟩
  rintro i m σ' H' ⟨rfl, hi', γ', M', r', e', w'⟩
  obtain ⟨go, stop⟩ := ir M' H' e' r'.ow (wst i γ' M' w') i
  by_cases hlt : i < j.its.length
  · have hd : j.its[i]? = some j.its[i] := by simp [hlt]
    obtain ⟨g1, y1⟩ := go _ hd
    refine .inr ⟨g1, fun σ2 H2 => ∃ γ2 M2, Rel ⟨X.K, C⟩ M2 γ2 σ2 H2 ∧ Ext M1 M2 H1 H2 ∧ W (i + 1) γ2 M2, fun σ2 H2 q => ⟨j.its.length - (i + 1), by omega, rfl, hlt, q⟩, fun x H2 hy => ?_⟩
    obtain ⟨o2, i2, e2⟩ := y1 x H2 hy
    refine sg j.its[i] γ' M' _ σ' H2 x _ (r'.mk' e2 o2) i2 (step i _ γ' M' w' hd) fun γ3 M3 σ3 H3 r3 e3 h3 => ?_
    have x13 := (e'.trans e2).trans e3
    refine sb _ γ3 M3 σ3 H3 _ r3 ⟨?_, ?_, ?_, ?_, ?_⟩ h3
    · intro γ4 M4 σ4 H4 r4 e4 w4
      exact ⟨γ4, M4, r4, x13.trans e4, w4⟩
    · exact (l.ext (e1.trans x13)).rt
    · exact (l.ext (e1.trans x13)).nx
    · intro γ4 M4 σ4 H4 r4 e4 w4
      exact ⟨γ4, M4, r4, x13.trans e4, w4⟩
    · exact (l.ext (e1.trans x13)).xx
  · have en : i = j.its.length := by omega
    subst en
    exact .inl ⟨stop (Nat.le_refl _), l.nx γ' M' σ' H' r' (e1.trans e') (fin γ' M' w')⟩
end
end Dl
namespace Dl
open PySem L2
theorem wipe_in {σ : St} {j : Nat} : ∀ {vs : List Nat}, j ∈ vs → (wipe σ vs)[j]? = if j < σ.length then some none else none
  | [], h => by cases h
  | v :: vs, h => by
    unfold wipe
    by_cases e : v = j
    · subst e
      by_cases hl : v < σ.length
      · rw [if_pos hl, List.getElem?_set_self (by rw [wipe_length]; exact hl)]
      · rw [if_neg hl]
        rw [List.getElem?_eq_none_iff.mpr]
        rw [List.length_set, wipe_length]; omega
    · rw [List.getElem?_set_ne e]
      rcases List.mem_cons.mp h with z | z
      · exact absurd z.symm e
      · exact wipe_in z
theorem wipe_eq {σ τ : St} {vs : List Nat} (hl : σ.length = τ.length) (h : ∀ j, j ∉ vs → σ[j]? = τ[j]?) : wipe σ vs = wipe τ vs := by
  apply List.ext_getElem?
  intro j
  by_cases hj : j ∈ vs
  · rw [wipe_in hj, wipe_in hj, hl]
  · rw [wipe_out hj, wipe_out hj]; exact h j hj
theorem wipe_set {σ : St} {i : Nat} {x : Option V} {vs : List Nat} (hi : i ∈ vs) : wipe (σ.set i x) vs = wipe σ vs :=
  wipe_eq (by simp) fun j hj => by
    have ne : i ≠ j := fun e => hj (e ▸ hi)
    rw [List.getElem?_set_ne ne]
theorem wipe_wipe {σ : St} {vs : List Nat} : wipe (wipe σ vs) vs = wipe σ vs := wipe_eq (wipe_length σ vs) fun _ hj => wipe_out hj
def gwipe (γ : Gm) : List Nat → Gm
  | [] => γ
  | v :: vs => gset (gwipe γ vs) v none
theorem SlR.unset {G : Gx} {M : Mem} {H : Hp} : ∀ {γ : Gm} {σ : St} {i : Nat}, SlR G M H γ σ → SlR G M H (gset γ i none) (σ.set i none)
  | [], [], _, _ => trivial
  | [], _ :: _, _, h => h.elim
  | a :: _, [], _, h => by cases a <;> exact h.elim
  | none :: r, y :: s, 0, h => h
  | some _ :: r, y :: s, 0, h => h.2
  | none :: r, y :: s, i + 1, h => SlR.unset (γ := r) (σ := s) (i := i) h
  | some _ :: r, y :: s, i + 1, h => ⟨h.1, SlR.unset (γ := r) (σ := s) (i := i) h.2⟩
theorem SlR.wipe {G : Gx} {M : Mem} {H : Hp} {γ : Gm} {σ : St} (h : SlR G M H γ σ) : ∀ vs : List Nat, SlR G M H (gwipe γ vs) (L2.wipe σ vs)
  | [] => h
  | _ :: vs => SlR.unset (SlR.wipe h vs)
def SndGW (G : Gx) (t : TG) (g : DG) (vs : List Nat) : Prop := ∀ (d : D) (γ : Gm) (M : Mem) (R : Gm → Mem → Prop) (σ : St) (H : Hp) (x : V) (Q : St → Hp → Prop), Rel G M γ σ H → Is G M H d x → g d γ M R →
  (∀ γ' M' σ' H', Rel G M' γ' σ' H' → Ext M M' H H' → wipe σ' vs = wipe σ vs → R γ' M' → Q σ' H') → t x σ H Q
def SndGsW (G : Gx) (t : TGs) (g : DGs) (vs : List Nat) : Prop := ∀ (ds : List D) (γ : Gm) (M : Mem) (R : Gm → Mem → Prop) (σ : St) (H : Hp) (xs : List V) (Q : St → Hp → Prop), Rel G M γ σ H → IsL G M H ds xs → g ds γ M R →
  (∀ γ' M' σ' H', Rel G M' γ' σ' H' → Ext M M' H H' → wipe σ' vs = wipe σ vs → R γ' M' → Q σ' H') → t xs σ H Q
structure QGW (X : Cx) (C : Addr) (tg : Expr) (g : DG) (vs : List Nat) : Prop where
  ex : ∃ t, PG X tg t ∧ SndGW ⟨X.K, C⟩ t g vs
structure QGsW (X : Cx) (C : Addr) (tg : List Expr) (g : DGs) (vs : List Nat) : Prop where
  ex : ∃ t, PGs X tg t ∧ SndGsW ⟨X.K, C⟩ t g vs
section
variable {X : Cx} {C : Addr} {e : Expr} {pos : Pos} {vs : List Nat}
theorem qgw_name {i : Nat} {x : Str} (hN : X.N.Nodup) (hv : i ∈ vs := by decide) (hi : X.N[i]? = some x := by rfl) (hx : Loc X.env.scope x := by first | exact Or.inl rfl | exact Or.inr rfl) (hf : X.fn x = true ∨ X.env.scope.names.lookup x = some .local := by first | exact .inl rfl | exact .inr rfl | assumption) : QGW X C (.Name x pos) (dName i) vs :=
  ⟨_, pg_name hN hi hx hf, fun d γ M R σ H x Q r i1 h k => k _ M _ H ⟨r.sl.set i1, r.ow⟩ Ext.refl (wipe_set hv) h⟩
theorem qgsw_nil : QGsW X C [] dNil vs := ⟨_, pgs_nil, fun ds γ M R σ H xs Q r i1 h k => by
  match ds, xs, i1, h with
  | [], [], _, h => exact ⟨rfl, k γ M σ H r Ext.refl rfl h⟩
  | [], _ :: _, i1, _ => unfold IsL at i1; exact i1.elim⟩
theorem qgsw_cons {es : List Expr} {g : DG} {gs : DGs} (h1 : QGW X C e g vs) (h2 : QGsW X C es gs vs) (hs : (assignEach (e :: es) X.env).map (·.2) = assign e X.env :: (assignEach es X.env).map (·.2) := by rfl) : QGsW X C (e :: es) (dCons g gs) vs := by
  obtain ⟨t, p, s⟩ := h1.ex
  obtain ⟨t2, p2, s2⟩ := h2.ex
  refine ⟨_, pgs_cons p p2 hs, fun ds γ M R σ H xs Q r i1 h k => ?_⟩
  match ds, xs, i1, h with
  | d :: ds, x :: xs, i1, h =>
    unfold IsL at i1
    exact ⟨x, xs, rfl, s d γ M _ σ H x _ r i1.1 h fun γ' M' σ' H' r' e' w' h' => s2 ds γ' M' R σ' H' xs Q r' (IsL.ext e' ds xs i1.2) h' fun γ2 M2 σ2 H2 r2 e2 w2 h2 => k γ2 M2 σ2 H2 r2 (e'.trans e2) (w2.trans w') h2⟩
  | _ :: _, [], i1, _ => unfold IsL at i1; exact i1.elim
theorem qgw_tup {es : List Expr} {k : Nat} {gs : DGs} {n : Nat} (h : QGsW X C es gs vs) (hc : X.calm = true := by rfl) (hn : (assignEach es X.env).length = n := by rfl) (hst : (assignEach es X.env).findIdx? (·.1) = none := by rfl) : QGW X C (.Tuple es k pos) (dTup n gs) vs := by
  obtain ⟨t, p, s⟩ := h.ex
  refine ⟨_, pg_tup hc p hn hst, fun d γ M R σ H x Q r i1 h k => ?_⟩
  cases d with
  | tup ds =>
    have i2 := i1
    unfold Is at i2
    obtain ⟨a, xs, e1, m, ha, hl⟩ := i2
    exact ⟨a, xs, e1, SqT.of ha, by rw [← hl.len]; exact h.1, s ds γ M R σ H xs Q r hl h.2 k⟩
  | _ => exact False.elim h
def liftG (G : Gx) (g : DG) (vs : List Nat) : TG := fun x σ H Q => ∃ (d : D) (γ : Gm) (M : Mem) (R : Gm → Mem → Prop), Rel G M γ σ H ∧ Is G M H d x ∧ g d γ M R ∧
  ∀ γ' M' σ' H', Rel G M' γ' σ' H' → Ext M M' H H' → wipe σ' vs = wipe σ vs → R γ' M' → Q σ' H'
theorem QGW.lift {g : DG} (h : QGW X C e g vs) : PG X e (liftG ⟨X.K, C⟩ g vs) := by
  obtain ⟨t, p, s⟩ := h.ex
  exact ⟨fun pins s0 σ H v u Q I rv ⟨d, γ, M, R, re, is, hg, k⟩ => p.run pins s0 σ H v u Q I rv (s d γ M R σ H v Q re is hg k)⟩
def vYes : DT := fun _ M R => R true M
structure QTs (X : Cx) (C : Addr) (ifs : List Expr) (v : DT) : Prop where
  ex : ∃ t, PTs X ifs t ∧ SndT ⟨X.K, C⟩ t v
theorem qts_nil : QTs X C [] vYes := ⟨_, pts_nil, fun γ M R σ H Q r h k => k true M H r.ow Ext.refl h⟩
theorem qts_one {v : DT} (h : QT X C e v) : QTs X C [e] v := let ⟨_, p, s⟩ := h.ex; ⟨_, pts_one p, s⟩
theorem QTs.lift {ifs : List Expr} {v : DT} (h : QTs X C ifs v) : PTs X ifs (liftT ⟨X.K, C⟩ v) := by
  obtain ⟨t, p, s⟩ := h.ex
  exact ⟨fun pins s0 σ H Q I ⟨γ, M, R, re, hv, k⟩ => p.run pins s0 σ H Q I (s γ M R σ H Q re hv k)⟩
def vLc (w : DI) (g : DG) (t : DT) (e : DE) (vs : List Nat) : DE := fun γ M R => w γ M fun j M1 => ∀ p, M1 p = none → ∃ W : Nat → List D → Mem → Prop, W 0 [] M1 ∧
  (∀ i acc M', W i acc M' → M' p = none ∧ acc.length < sizeLine ∧ j.st (mset M' p (.lst acc))) ∧
  (∀ i acc M' d, W i acc M' → j.its[i]? = some d → g d (gwipe γ vs) (mset M' p (.lst acc)) fun γ2 M2 => t γ2 M2 fun b M3 =>
    (b = true → e γ2 M3 fun y M4 => pureD y = true ∧ ∃ M5, M4 = mset M5 p (.lst acc) ∧ W (i + 1) (acc ++ [y]) M5) ∧ (b = false → ∃ M5, M3 = mset M5 p (.lst acc) ∧ W (i + 1) acc M5)) ∧
  (∀ acc M', W j.its.length acc M' → R (.lst acc) M')
theorem snd_lc {G : Gx} {wi : TI} {w : DI} {g : DG} {t : DT} {ve : DE} (si : SndI G wi w) : Snd G (tLc wi (liftG G g vs) (liftT G t) (Dl.lift G ve) vs) (vLc w g t ve vs) := by
  intro γ M R σ H Q r h k
  refine si γ M _ σ H _ r h fun j J M1 H1 o1 e1 ir h1 p hp => ?_
  have mp : M1 p = none := o1.fresh hp
  obtain ⟨W, w0, ws, step, fin⟩ := h1 p mp
  have own0 : Own G (mset M1 p (.lst [])) (upd H1 p (.lst [])) := o1.newOwn hp (by simp [pureL]) IsL.nil
  refine ⟨fun i m H' => m = j.its.length - i ∧ i ≤ j.its.length ∧ ∃ acc M', Own G (mset M' p (.lst acc)) H' ∧ Ext M1 (mset M' p (.lst acc)) H1 H' ∧ W i acc M', ⟨j.its.length, by simp, Nat.zero_le _, [], M1, own0, Ext.newOwn hp, w0⟩, ?_⟩
  rintro i m H' ⟨rfl, hi, acc, M', oM, eM, wi'⟩
  obtain ⟨mp', hz, hst⟩ := ws i acc M' wi'
  obtain ⟨go, stop⟩ := ir _ H' eM oM hst i
  by_cases hlt : i < j.its.length
  · have hd : j.its[i]? = some j.its[i] := by simp [hlt]
    obtain ⟨g1, y1⟩ := go _ hd
    refine .inr ⟨g1, fun H2 => ∃ acc M', Own G (mset M' p (.lst acc)) H2 ∧ Ext M1 (mset M' p (.lst acc)) H1 H2 ∧ W (i + 1) acc M', fun H2 q => ⟨j.its.length - (i + 1), by omega, rfl, hlt, q⟩, fun x H2 hy => ?_⟩
    obtain ⟨o2, i2, e2⟩ := y1 x H2 hy
    have x2 := eM.trans e2
    refine ⟨j.its[i], gwipe γ vs, mset M' p (.lst acc), _, ⟨((r.sl.ext (e1.trans x2)).wipe vs), o2⟩, i2, step i acc M' _ wi' hd, fun γ3 M3 σ3 H3 r3 e3 w3 h3 => ⟨w3.trans wipe_wipe, ?_⟩⟩
    refine ⟨γ3, M3, _, r3, h3, fun b M4 H4 o4 e4 h4 => ?_⟩
    cases b with
    | true =>
      rw [if_pos rfl]
      refine ⟨γ3, M4, _, r3.mk' e4 o4, h4.1 rfl, fun y M5 v H5 o5 i5 e5 h5 => ?_⟩
      obtain ⟨pu, M6, eq, w6⟩ := h5
      subst eq
      obtain ⟨pa, xs, hx, hl⟩ := o5 p (.lst acc) mset_same
      refine ⟨xs, hx, by rw [← hl.len]; exact hz, acc ++ [y], M6, ?_, ?_, w6⟩
      · have q := o5.put (p := p) (ds := acc ++ [y]) (xs := xs ++ [v]) (by rw [mset_same]; rfl) (pureL_append pa (by simp [pureL, pu])) (hl.append (IsL.cons i5 IsL.nil))
        rw [mset_set] at q
        exact q
      · have q := ((x2.trans e3).trans (e4.trans e5)).trans (Ext.put (p := p) (o := .lst (xs ++ [v])) (m := .lst (acc ++ [y])) (by rw [mset_same]; rfl))
        rw [mset_set] at q
        exact q
    | false =>
      rw [if_neg Bool.false_ne_true]
      obtain ⟨M6, eq, w6⟩ := h4.2 rfl
      subst eq
      exact ⟨acc, M6, o4, (x2.trans e3).trans e4, w6⟩
  · have en : i = j.its.length := by omega
    subst en
    refine .inl ⟨stop (Nat.le_refl _), ?_⟩
    obtain ⟨pa, xs, hx, hl⟩ := oM p (.lst acc) mset_same
    have sub : Sub M' (mset M' p (.lst acc)) := Sub.set mp'
    have xx := e1.trans eM
    refine k (.lst acc) M' (.ref p) H' (oM.sub sub) ?_ (xx.sub sub fun a ha => ?_) (fin acc M' wi')
    · unfold Is
      exact ⟨p, xs, rfl, mp', hx, IsL.sub (fun b hb => sub.non hb) acc xs pa hl⟩
    · have q := xx.ow a ha
      by_cases hap : a = p
      · subst hap
        have z := e1.ow a ha
        rw [mp] at z; cases z
      · rw [mset_ne hap] at q; exact q
theorem q_lc {elt tg iter : Expr} {ifs : List Expr} {scope : Scope} {own : List (Str × Nat)} {w : DI} {g : DG} {t : DT} {ve : DE} (hN : X.N.Nodup) (hi : QI X C tg iter w) (ok : BlkOk X.N X.env.scope scope own)
    (hg : ∀ (s : Shared) (H : Hp) (a : Addr) (cl : List (Str × Addr)) (fp : List Addr), QGW (X.blk s H scope (compEnvC scope cl a X.env) fp) C tg g (own.map (·.2))) (ht : ∀ (s : Shared) (H : Hp) (a : Addr) (cl : List (Str × Addr)) (fp : List Addr), QTs (X.blk s H scope (compEnvC scope cl a X.env) fp) C ifs t)
    (he : ∀ (s : Shared) (H : Hp) (a : Addr) (cl : List (Str × Addr)) (fp : List Addr), QE (X.blk s H scope (compEnvC scope cl a X.env) fp) C elt ve) (hc : X.calm = true := by rfl) (hs : ∀ x, foldedSetIterable iter X.env x = pure x := by intro _; rfl) :
    QE X C (.ListComp elt [⟨tg, iter, ifs, 0⟩] scope pos) (vLc w g t ve (own.map (·.2))) := by
  obtain ⟨wi, pi, si⟩ := hi.ex
  exact ⟨_, pe_lc hc hN pi ok (fun s H a cl fp => (hg s H a cl fp).lift) (fun s H a cl fp => (ht s H a cl fp).lift) (fun s H a cl fp => (he s H a cl fp).lift) hs, snd_lc si⟩
theorem qs_setLc {i : Nat} {y : Str} {py spos : Pos} {elt tg iter : Expr} {ifs : List Expr} {scope : Scope} {own : List (Str × Nat)} {w : DI} {g : DG} {t : DT} {ve : DE} (hN : X.N.Nodup) (hi : QI X C tg iter w) (ok : BlkOk X.N X.env.scope scope own)
    (hg : ∀ (s : Shared) (H : Hp) (a : Addr) (cl : List (Str × Addr)) (fp : List Addr), QGW (X.blk s H scope (compEnvC scope cl a X.env) fp) C tg g (own.map (·.2))) (ht : ∀ (s : Shared) (H : Hp) (a : Addr) (cl : List (Str × Addr)) (fp : List Addr), QTs (X.blk s H scope (compEnvC scope cl a X.env) fp) C ifs t)
    (he : ∀ (s : Shared) (H : Hp) (a : Addr) (cl : List (Str × Addr)) (fp : List Addr), QE (X.blk s H scope (compEnvC scope cl a X.env) fp) C elt ve) (hsw : swapsWith (.ListComp elt [⟨tg, iter, ifs, 0⟩] scope pos) (some (.Name y py)) spos.line X.env = pure true) (hy : X.N[i]? = some y := by rfl) (hyl : X.env.scope.names.lookup y = some .local := by rfl) (hc : X.calm = true := by rfl) (hs : ∀ x, foldedSetIterable iter X.env x = pure x := by intro _; rfl) :
    QS X C (.Assign [.Name y py] (.ListComp elt [⟨tg, iter, ifs, 0⟩] scope pos) spos) (vAsg (vLc w g t ve (own.map (·.2))) (dName i)) := by
  obtain ⟨wi, pi, si⟩ := hi.ex
  exact ⟨_, ps_setLc hc hN hy hyl hsw pi ok (fun s H a cl fp => (hg s H a cl fp).lift) (fun s H a cl fp => (ht s H a cl fp).lift) (fun s H a cl fp => (he s H a cl fp).lift) hs, snd_asg (snd_lc si) sndG_name⟩
end
section
variable {X : Cx} {C : Addr} {o e : Expr} {vo ve : DE} {pos apos : Pos}
def lstAt (M : Mem) (a : Addr) : Bool := match M a with
  | some (.lst _) => true
  | _ => false
theorem lstAt_of {M : Mem} {a : Addr} {ds : List D} (h : M a = some (.lst ds)) : lstAt M a = true := by unfold lstAt; rw [h]
theorem lstAt_set {M : Mem} {a : Addr} {ds : List D} : lstAt (mset M a (.lst ds)) a = true := lstAt_of mset_same
def vAppend (o e : DE) : DE := fun γ M R => o γ M fun od M1 => match od with
  | .own a => lstAt M1 a = true ∧ e γ M1 fun d M2 => (match M2 a with
    | some (.lst ds) => pureD d = true ∧ ds.length < sizeLine ∧ R .non (mset M2 a (.lst (ds ++ [d])))
    | _ => False)
  | _ => False
theorem own_list {G : Gx} {M : Mem} {H : Hp} {a : Addr} (o : Own G M H) (h : lstAt M a = true) : ∃ ds xs, M a = some (.lst ds) ∧ pureL ds = true ∧ H a = some (.lst xs) ∧ IsL G M H ds xs := by
  unfold lstAt at h
  split at h
  · rename_i ds q
    obtain ⟨pu, xs, ha, hl⟩ := o a _ q
    exact ⟨ds, xs, q, pu, ha, hl⟩
  · cases h
theorem q_append (ho : QE X C o vo) (he : QE X C e ve) (hpe : ∀ {to te : TE}, PE X o to → PE X e te → PE X (.Call (.Attribute o "append" apos) [e] [] pos) (tBM X.K "list" rAppend to (tCons te tNil)) := by exact fun h1 h2 => pe_bm PySem.F.plainAttrs_list PySem.F.slot_list_append PySem.F.type_list_append mt_append h1 (pa_cons h2 pa_nil)) : QE X C (.Call (.Attribute o "append" apos) [e] [] pos) (vAppend vo ve) := by
  obtain ⟨to, po, so⟩ := ho.ex
  obtain ⟨te, pe, se⟩ := he.ex
  refine ⟨_, hpe po pe, fun γ M R σ H Q r h k => so γ M _ σ H _ r h fun od M1 x H1 o1 i1 e1 h1 => ?_⟩
  cases od with
  | own a =>
    have j1 := i1
    unfold Is at j1
    obtain ⟨hq, h1⟩ := h1
    obtain ⟨ds, xs, q, pu, ha, hl⟩ := own_list o1 hq
    rw [j1.1]
    refine ⟨.inl ⟨rfl, xs, SqL.of ha⟩, se γ M1 _ σ H1 _ (r.mk' e1 o1) h1 fun d M2 y H2 o2 i2 e2 h2 => ?_⟩
    have j2 := Is.ext e2 _ _ i1
    unfold Is at j2
    have hq2 : lstAt M2 a = true := by
      split at h2
      · rename_i q; exact lstAt_of q
      · exact h2.elim
    obtain ⟨ds2, xs2, q2, pu2, ha2, hl2⟩ := own_list o2 hq2
    simp only [q2] at h2
    refine ⟨a, xs2, y, rfl, rfl, ha2, by rw [← hl2.len]; exact h2.2.1, ?_⟩
    exact k .non (mset M2 a (.lst (ds2 ++ [d]))) .non _ (o2.put j2.2 (pureL_append pu2 (by simp [pureL, h2.1])) (hl2.append (IsL.cons i2 IsL.nil))) is_non ((e1.trans e2).trans (Ext.put j2.2)) h2.2.2
  | _ => exact False.elim h1
end
def st0 : Nat → List D → Gm
  | 0, _ => []
  | n + 1, [] => none :: st0 n []
  | n + 1, d :: ds => some d :: st0 n ds
theorem st0_rel {G : Gx} {M : Mem} {H : Hp} : ∀ {n : Nat} {ds : List D} {vs : List V}, IsL G M H ds vs → ds.length ≤ n → SlR G M H (st0 n ds) (vs.map some ++ List.replicate (n - vs.length) none)
  | 0, [], [], _, _ => trivial
  | 0, _ :: _, _, _, h => by simp at h
  | _, [], _ :: _, h, _ => by unfold IsL at h; exact h.elim
  | _, _ :: _, [], h, _ => by unfold IsL at h; exact h.elim
  | n + 1, [], [], h, _ => by
    show SlR G M H (none :: st0 n []) (none :: List.replicate n none)
    have q := st0_rel (n := n) (ds := []) (vs := []) h (Nat.zero_le _)
    exact q
  | n + 1, d :: ds, v :: vs, h, hl => by
    unfold IsL at h
    have e : n + 1 - (v :: vs).length = n - vs.length := by simp
    show SlR G M H (some d :: st0 n ds) (some v :: (vs.map some ++ List.replicate (n + 1 - (v :: vs).length) none))
    rw [e]
    exact ⟨⟨v, rfl, h.1⟩, st0_rel h.2 (by simpa using hl)⟩
def FrzD (M' M2 : Mem) (d e : D) : Prop := (pureD d = true ∧ e = d) ∨ (∃ p ds, d = .own p ∧ M' p = some (.lst ds) ∧ M2 p = none ∧ e = .lst ds) ∨ ∃ p, d = .own p ∧ e = .own p ∧ (M2 p).isSome = true
def FrzL (M' M2 : Mem) : List D → List D → Prop
  | [], [] => True
  | d :: ds, e :: es => FrzD M' M2 d e ∧ FrzL M' M2 ds es
  | _, _ => False
def fin (M : Mem) (R : DR) : DR := fun d M' => ∃ d2 M2, Sub M2 M' ∧ (∀ a, (M a).isSome = true → (M2 a).isSome = true) ∧
  ((d2 = d ∧ (pureD d = true ∨ ∃ p, d = .own p ∧ (M2 p).isSome = true)) ∨ (∃ p ds, d = .own p ∧ M' p = some (.lst ds) ∧ M2 p = none ∧ d2 = .lst ds) ∨
  (∃ ds es, ((d = .tup ds ∧ d2 = .tup es) ∨ (d = .lst ds ∧ d2 = .lst es)) ∧ FrzL M' M2 ds es) ∨ (∃ c p, d = .exn c (.own p) ∧ d2 = d ∧ (M2 p).isSome = true)) ∧ R d2 M2
theorem fin_pure {M : Mem} {R : DR} {d : D} (h : R d M) (p : pureD d = true := by rfl) : fin M R d M := ⟨d, M, Sub.refl, fun _ h => h, .inl ⟨rfl, .inl p⟩, h⟩
theorem fin_to {M M' : Mem} {R : DR} {d : D} (M2 : Mem) (s : Sub M2 M') (dm : ∀ a, (M a).isSome = true → (M2 a).isSome = true) (h : R d M2) (p : pureD d = true := by rfl) : fin M R d M' := ⟨d, M2, s, dm, .inl ⟨rfl, .inl p⟩, h⟩
theorem dom_set {M : Mem} {a : Addr} {m : MO} : ∀ b, (M b).isSome = true → (mset M a m b).isSome = true := fun b h => by
  unfold mset; split
  · rfl
  · exact h
theorem fin_set {M : Mem} {R : DR} {d : D} {a : Addr} {m : MO} (h : R d (mset M a m)) (p : pureD d = true := by rfl) : fin M R d (mset M a m) := ⟨d, _, Sub.refl, dom_set, .inl ⟨rfl, .inl p⟩, h⟩
theorem fin_drop {M : Mem} {R : DR} {d : D} {q : Addr} {m : MO} (hq : M q = none) (h : R d M) (p : pureD d = true := by rfl) : fin M R d (mset M q m) := ⟨d, M, Sub.set hq, fun _ h => h, .inl ⟨rfl, .inl p⟩, h⟩
theorem fin_own {M : Mem} {R : DR} {q : Addr} {m : MO} (h : R (.own q) (mset M q m)) : fin M R (.own q) (mset M q m) := ⟨.own q, _, Sub.refl, dom_set, .inl ⟨rfl, .inr ⟨q, rfl, by rw [mset_same]; rfl⟩⟩, h⟩
theorem fin_frz2 {M : Mem} {R : DR} {p q : Addr} {ds es : List D} (hp : M p = none) (hq : M q = none) (hpq : p ≠ q) (h : R (.tup [.lst ds, .lst es]) M) : fin M R (.tup [.own p, .own q]) (mset (mset M p (.lst ds)) q (.lst es)) :=
  ⟨_, M, fun a m e => by rw [mset_ne (fun z => by rw [z, hq] at e; cases e), mset_ne (fun z => by rw [z, hp] at e; cases e)]; exact e, fun _ h => h, .inr (.inr (.inl ⟨[.own p, .own q], [.lst ds, .lst es], .inl ⟨rfl, rfl⟩, And.intro (.inr (.inl ⟨p, ds, rfl, by rw [mset_ne hpq, mset_same], hp, rfl⟩)) (And.intro (.inr (.inl ⟨q, es, rfl, mset_same, hq, rfl⟩)) trivial)⟩)), h⟩
theorem fin_exn {M M' : Mem} {R : DR} {c : Str} {p : Addr} (M2 : Mem) (s : Sub M2 M') (dm : ∀ a, (M a).isSome = true → (M2 a).isSome = true) (hp : (M2 p).isSome = true) (h : R (.exn c (.own p)) M2) : fin M R (.exn c (.own p)) M' :=
  ⟨_, M2, s, dm, .inr (.inr (.inr ⟨c, p, rfl, rfl, hp⟩)), h⟩
def fEnds (M : Mem) (R : DR) : DEnds := { nx := fun _ M' => fin M R .non M', rt := fin M R }
theorem fin_ok {G : Gx} {M M' : Mem} {R : DR} {d : D} {x : V} {H H' : Hp} {Q : VK} (o : Own G M' H') (i : Is G M' H' d x) (e : Ext M M' H H') (h : fin M R d M')
    (k : ∀ d M' x H', Own G M' H' → Is G M' H' d x → Ext M M' H H' → R d M' → Q x H') : Q x H' := by
  obtain ⟨d2, M2, sb, dm, c, hr⟩ := h
  refine k d2 M2 x H' (o.sub sb) ?_ (e.sub sb dm) hr
  rcases c with ⟨rfl, pu | ⟨p, rfl, hp⟩⟩ | ⟨p, ds, rfl, hm, hn, rfl⟩ | ⟨ds, es, eq, fz⟩ | ⟨c, p, rfl, rfl, hp⟩
  · exact Is.sub (fun a ha => sb.non ha) _ _ pu i
  · unfold Is at i ⊢
    exact ⟨i.1, hp⟩
  · unfold Is at i
    obtain ⟨pu, xs, ha, hl⟩ := o p _ hm
    unfold Is
    exact ⟨p, xs, i.1, hn, ha, IsL.sub (fun a ha => sb.non ha) ds xs pu hl⟩
  · have st : ∀ {p : Addr} {ds : List D} {v : V}, M' p = some (.lst ds) → M2 p = none → Is G M' H' (.own p) v → Is G M2 H' (.lst ds) v := fun {p ds v} hm hn i => by
      unfold Is at i
      obtain ⟨pu, xs, ha, hl⟩ := o p _ hm
      unfold Is
      exact ⟨p, xs, i.1, hn, ha, IsL.sub (fun a ha => sb.non ha) ds xs pu hl⟩
    have stD : ∀ {d e : D} {v : V}, FrzD M' M2 d e → Is G M' H' d v → Is G M2 H' e v := fun {d e v} fz i => by
      rcases fz with ⟨pu, rfl⟩ | ⟨p, ds, rfl, hm, hn, rfl⟩ | ⟨p, rfl, rfl, hp⟩
      · exact Is.sub (fun a ha => sb.non ha) _ _ pu i
      · exact st hm hn i
      · unfold Is at i ⊢
        exact ⟨i.1, hp⟩
    have stL : ∀ (ds es : List D) (vs : List V), FrzL M' M2 ds es → IsL G M' H' ds vs → IsL G M2 H' es vs := fun ds => by
      induction ds with
      | nil =>
        intro es vs fz hl
        match es, vs, fz, hl with
        | [], [], _, _ => exact IsL.nil
        | [], _ :: _, _, hl => unfold IsL at hl; exact hl.elim
        | _ :: _, _, fz, _ => exact fz.elim
      | cons d ds ih =>
        intro es vs fz hl
        match es, vs, fz, hl with
        | [], _, fz, _ => exact fz.elim
        | e :: es, [], _, hl => unfold IsL at hl; exact hl.elim
        | e :: es, v :: vs, fz, hl =>
          unfold IsL at hl
          exact IsL.cons (stD fz.1 hl.1) (ih es vs fz.2 hl.2)
    rcases eq with ⟨rfl, rfl⟩ | ⟨rfl, rfl⟩
    · unfold Is at i
      obtain ⟨a, vs, ev, hn3, ha, hl⟩ := i
      unfold Is
      exact ⟨a, vs, ev, sb.non hn3, ha, stL _ _ _ fz hl⟩
    · unfold Is at i
      obtain ⟨a, vs, ev, hn3, ha, hl⟩ := i
      unfold Is
      exact ⟨a, vs, ev, sb.non hn3, ha, stL _ _ _ fz hl⟩
  · unfold Is at i ⊢
    obtain ⟨a, dd, u, ev, hn, ha, hnd, hd, iu⟩ := i
    unfold Is at iu
    refine ⟨a, dd, u, ev, sb.non hn, ha, sb.non hnd, hd, ?_⟩
    unfold Is
    exact ⟨iu.1, hp⟩
section
variable {P : Program} {w : World} {K : PySem.W.Frag} {mg : Str → Option Value} {base : Heap} {x qual : Str} {params : Arguments} {body : List Stmt} {scope : Scope} {dvs : List V} {kws : List (Str × V)} {f : Addr} {fd : FuncData}
theorem fn_ok {N ps : List Str} {k : Nat} {C : Addr} {S : DSp} {v : DS} (n m : Nat) (F : FunD K x qual params body scope dvs kws f fd) (SC : FnScope N ps scope)
    (hq : ∀ (cdv : Value) (A : Around) (outer : List Env) (s : Shared) (H : Hp) (E : XK), Room k (A.deeper (PyProof.Rows.envOfC qual scope s.heap.objs.size f cdv)) → QSs (cxOf CX0 P w K mg base N qual scope f cdv A outer s H E).nox C body v)
    (hv : ∀ ds M R, ds.length = m → S ds M R noX → v (fEnds M R) (st0 n ds) M) (hn : N.length = n := by rfl) (hm : ps.length = m := by rfl) : FnOk P w K mg base CX0 (k + 1) f fd ps (spD ⟨K, C⟩ m S) := by
  subst hn; subst hm
  have hpl : ps.length ≤ N.length := by have := congrArg List.length SC.pre; rw [List.length_take] at this; omega
  refine F.ok SC (fun vs H Q E h => ?_) (fun cdv A outer s H vs Q E hr h => ?_)
  · obtain ⟨ds, M, R, hl, il, _⟩ := h
    rw [← il.len]; exact hl
  · obtain ⟨ds, M, R, hl, il, ow, hs, k2⟩ := h
    obtain ⟨t, pt, st⟩ := (hq cdv A outer s H E hr).ex
    refine ⟨t, pt.nox, st (fEnds M R) (st0 N.length ds) M _ H _ ⟨st0_rel il (by omega), ow⟩ ⟨?_, ?_, ?_, ?_, ?_⟩ (hv ds M R hl hs)⟩
    · intro γ M' σ H' r' e' h'
      exact fin_ok r'.ow is_non e' h' k2
    · intro d M' y H' o' i' e' h'
      exact fin_ok o' i' e' h' k2
    · intro _ _ _ _ _ _ h'; exact h'.elim
    · intro _ _ _ _ _ _ h'; exact h'.elim
    · intro _ _ _ _ _ _ _ _ _ _ h'; exact h'.elim
end
end Dl
namespace Dl
open PySem L2
structure CallOk (P : Program) (w : World) (K : PySem.W.Frag) (mg : Str → Option Value) (base : Heap) (C : Addr) (k : Nat) (x : Str) (n : Nat) (S : DSp) (dd : List D) : Prop where
  ex : ∃ (f : Addr) (fd : FuncData) (ps : List Str) (ds : List Value) (dv : List V), mg x = some (.ref f) ∧ PySem.W.keepIn K (.ref f) = true ∧ FnOk P w K mg base CX0 k f fd ps (spD ⟨K, C⟩ n S) ∧ Binds K fd ps ds ∧ Vals dv ds ∧ constL dd = some dv
structure KCallOk (P : Program) (w : World) (K : PySem.W.Frag) (mg : Str → Option Value) (base : Heap) (C : Addr) (k : Nat) (x : Str) (n : Nat) (S : DSp) (np : Nat) (ks : List Str) (pick : List D → List D → List D) : Prop where
  ex : ∃ (f : Addr) (fd : FuncData) (ps : List Str) (g : List Value → List Value → List Value) (gV : List V → List V → List V), mg x = some (.ref f) ∧ PySem.W.keepIn K (.ref f) = true ∧ FnOk P w K mg base CX0 k f fd ps (spD ⟨K, C⟩ n S) ∧ KBn K fd ps np ks g gV ∧
    ∀ (M : Mem) (H : Hp) (ds zs : List D) (vs us : List V), IsL ⟨K, C⟩ M H ds vs → IsL ⟨K, C⟩ M H zs us → IsL ⟨K, C⟩ M H (pick ds zs) (gV vs us)
section
variable {X : Cx} {C : Addr} {k j n : Nat} {S : DSp} {dd : List D} {x : Str} {p pos : Pos} {e : Expr} {es : List Expr} {va : DA}
theorem qc (h : CallOk X.prog X.w X.K X.mg X.base C k x n S dd) (hr : Room j X.A) (hkj : k ≤ j) (ha : QA X C (e :: es) va) (hg : Gl X x := by rfl) (hdb : (x == ("__debug__" : Str)) = false := by decide) (he : starEach (e :: es) X.env = (false, eval e X.env) :: starEach es X.env := by rfl) (hpl : (backTo pos (starEach es X.env)).any (·.1) = false := by rfl) :
    QE X C (.Call (.Name x p) (e :: es) [] pos) (vCall n S dd va) := by
  obtain ⟨f, fd, ps, ds, dv, h1, h2, h3, h4, h5, h6⟩ := h.ex
  exact q_call h3 (hr.mono hkj) h1 h2 h4 h5 h6 ha hg hdb he hpl
theorem qck {np : Nat} {kws : List Keyword} {ks : List Str} {pick : List D → List D → List D} {vk : DA} (h : KCallOk X.prog X.w X.K X.mg X.base C k x n S np ks pick) (hr : Room j X.A) (hkj : k ≤ j)
    (ha : QA X C (e :: es) va) (hkw : QK X C kws vk) (hg : Gl X x := by rfl) (hall : (backToKw pos (keywordEach kws X.env)).all (·.1.isSome) = true := by rfl) (hks : (backToKw pos (keywordEach kws X.env)).filterMap (·.1) = ks := by rfl)
    (hdb : (x == ("__debug__" : Str)) = false := by decide) (he : starEach (e :: es) X.env = (false, eval e X.env) :: starEach es X.env := by rfl)
    (hpl : ((backTo pos (starEach (e :: es) X.env)).any (·.1) || (backToKw pos (keywordEach kws X.env)).any (·.1.isNone)) = false := by rfl) :
    QE X C (.Call (.Name x p) (e :: es) kws pos) (vCallK n np ks.length S pick va vk) := by
  obtain ⟨f, fd, ps, g, gV, h1, h2, h3, h4, h5⟩ := h.ex
  exact q_callK h3 (hr.mono hkj) h1 h2 h4 h5 ha hkw hg hall hks hdb he hpl
end
section
variable {P : Program} {w : World} {K : PySem.W.Frag} {mg : Str → Option Value} {base : Heap} {C : Addr} {k n : Nat} {S : DSp} {x qual : Str} {params : Arguments} {body : List Stmt} {scope : Scope} {dvs : List V} {kws : List (Str × V)} {f : Addr} {fd : FuncData} {ps : List Str}
theorem call_all (G : mg x = some (.ref f)) (F : FunD K x qual params body scope [] kws f fd) (ok : FnOk P w K mg base CX0 k f fd ps (spD ⟨K, C⟩ n S))
    (h : ∀ (kV doc pm : Value) (an : Option Addr) (cdv ct : Value) (us : List Value), us.length = ps.length → bindArgs (PySem.W.fnOf x qual params body scope .none kV doc pm an cdv ct) ⟨us, []⟩ = pure (ps.zip us)) : CallOk P w K mg base C k x n S [] :=
  ⟨f, fd, ps, [], [], G, F.kp, ok, F.bindsN h, .nil, rfl⟩
theorem call_dfl (dd : List D) (m j : Nat) (G : mg x = some (.ref f)) (F : FunD K x qual params body scope dvs kws f fd) (ok : FnOk P w K mg base CX0 k f fd ps (spD ⟨K, C⟩ n S)) (hd : dvs ≠ []) (hn : m + (dvs.length - j) = ps.length) (hdd : constL dd = some (dvs.drop j))
    (h : ∀ (T : Addr) (kV doc pm : Value) (an : Option Addr) (cdv ct : Value) (us its : List Value), us.length = m → its.length = dvs.length →
      ∃ k, bindArgs (PySem.W.fnOf x qual params body scope (.ref T) kV doc pm an cdv ct) ⟨us, []⟩ = seqItems? (.ref T) >>= k ∧ k (some its.toArray) = pure (ps.zip (us ++ its.drop j))) : CallOk P w K mg base C k x n S dd := by
  obtain ⟨ds, h1, h2⟩ := F.binds1 m j hd hn h
  exact ⟨f, fd, ps, ds, _, G, F.kp, ok, h2, h1, hdd⟩
def pickL {α : Type} (ix : List Nat) (us ws : List α) : List α := ix.filterMap fun i => (us ++ ws)[i]?
theorem pick_vals {vs zs : List V} {us ws : List Value} (r : Vals vs us) (s : Vals zs ws) : ∀ ix : List Nat, Vals (pickL ix vs zs) (pickL ix us ws)
  | [] => .nil
  | i :: ix => by
    have a := r.append s
    unfold pickL
    rw [List.filterMap_cons, List.filterMap_cons]
    cases e : (vs ++ zs)[i]? with
    | none => rw [a.none_of e]; exact pick_vals r s ix
    | some v =>
      obtain ⟨u, h1, h2⟩ := a.get e
      rw [h1]
      exact .cons h2 (pick_vals r s ix)
theorem isL_none {G : Gx} {M : Mem} {H : Hp} {ds : List D} {vs : List V} {i : Nat} (l : IsL G M H ds vs) (h : ds[i]? = none) : vs[i]? = none := by
  have e := l.len
  have h2 : ds.length ≤ i := List.getElem?_eq_none_iff.mp h
  exact List.getElem?_eq_none_iff.mpr (by omega)
theorem pick_isL {G : Gx} {M : Mem} {H : Hp} {ds zs : List D} {vs us : List V} (r : IsL G M H ds vs) (s : IsL G M H zs us) : ∀ ix : List Nat, IsL G M H (pickL ix ds zs) (pickL ix vs us)
  | [] => IsL.nil
  | i :: ix => by
    have a := r.append s
    unfold pickL
    rw [List.filterMap_cons, List.filterMap_cons]
    cases e : (ds ++ zs)[i]? with
    | none => rw [isL_none a e]; exact pick_isL r s ix
    | some v =>
      obtain ⟨u, h1, h2⟩ := a.get e
      rw [h1]
      exact IsL.cons h2 (pick_isL r s ix)
theorem call_kw (np : Nat) (ks : List Str) (ix : List Nat) (G : mg x = some (.ref f)) (F : FunD K x qual params body scope [] kws f fd) (ok : FnOk P w K mg base CX0 k f fd ps (spD ⟨K, C⟩ n S))
    (h : ∀ (kV doc pm : Value) (an : Option Addr) (cdv ct : Value) (us ws : List Value), us.length = np → ws.length = ks.length → bindArgs (PySem.W.fnOf x qual params body scope .none kV doc pm an cdv ct) ⟨us, ks.zip ws⟩ = pure (ps.zip (pickL ix us ws))) : KCallOk P w K mg base C k x n S np ks (pickL ix) := by
  obtain ⟨oc, od, dV, kV, doc, pm, an, cdv, ct, osl, e, lk, hcd, hD, hK⟩ := F.ex
  rcases hD with ⟨_, e2⟩ | ⟨z, _⟩
  · subst e; subst e2
    exact ⟨f, _, ps, pickL ix, pickL ix, G, F.kp, ok, ⟨fun s us ws _ l1 l2 => .of_eq (h kV doc pm an cdv ct us ws l1 l2), fun r s => pick_vals r s ix⟩, fun M H ds zs vs us r s => pick_isL r s ix⟩
  · exact absurd rfl z
end
theorem bb_abs : bootBuiltins "abs" = some (.builtin "abs") := by decide +kernel
theorem bb_max : bootBuiltins "max" = some (.builtin "max") := by decide +kernel
theorem bb_min : bootBuiltins "min" = some (.builtin "min") := by decide +kernel
theorem bb_int : bootBuiltins "int" = some (.type "int") := by decide +kernel
theorem bb_len : bootBuiltins "len" = some (.builtin "len") := by decide +kernel
theorem bb_list : bootBuiltins "list" = some (.type "list") := by decide +kernel
theorem bb_isinstance : bootBuiltins "isinstance" = some (.builtin "isinstance") := by decide +kernel
theorem bb_bool : bootBuiltins "bool" = some (.type "bool") := by decide +kernel
theorem bb_tuple : bootBuiltins "tuple" = some (.type "tuple") := by decide +kernel
def Sm (n : Nat) (x : Int) : Prop := x.natAbs < 2 ^ n
instance (n : Nat) (x : Int) : Decidable (Sm n x) := inferInstanceAs (Decidable (x.natAbs < 2 ^ n))
theorem Sm.mul {a b : Nat} {x y : Int} (hx : Sm a x) (hy : Sm b y) : Sm (a + b) (x * y) := by
  unfold Sm at *
  rw [Int.natAbs_mul, Nat.pow_add]
  exact Nat.mul_lt_mul'' hx hy
theorem Sm.mono {a b : Nat} {x : Int} (hx : Sm a x) (h : a ≤ b) : Sm b x := Nat.lt_of_lt_of_le hx (Nat.pow_le_pow_right (by decide) h)
theorem Sm.add {a : Nat} {x y : Int} (hx : Sm a x) (hy : Sm a y) : Sm (a + 1) (x + y) := by
  unfold Sm at *
  rw [Nat.pow_succ]; omega
theorem Sm.sub {a : Nat} {x y : Int} (hx : Sm a x) (hy : Sm a y) : Sm (a + 1) (x - y) := by
  unfold Sm at *
  rw [Nat.pow_succ]; omega
theorem Sm.neg {a : Nat} {x : Int} (hx : Sm a x) : Sm a (-x) := by unfold Sm at *; omega
theorem Sm.log {a : Nat} {x : Int} (h : Sm a x) (h0 : 0 < a) : x.natAbs.log2 < a := PySem.Flt.log2_lt_of h0 h
theorem Sm.bits {a : Nat} {x : Int} (h : Sm a x) : Builtin.Int.intBits x ≤ a := PyProof.Rows.intBits_le h
theorem mul_ok {a b : Nat} {x y : Int} (hx : Sm a x) (hy : Sm b y) (h : a + b ≤ 134217728) : IntMulOk x y := by
  have h1 := hx.bits
  have h2 := hy.bits
  have e : bitsLine = 134217728 := by decide
  unfold IntMulOk
  intro z
  rw [Bool.and_eq_true] at z
  have z3 := of_decide_eq_true z.2
  rw [e] at z3
  omega
theorem mul_okL {x y : Int} (hx : Sm 64 x) : IntMulOk x y := .of_left (Nat.le_trans hx.bits (Nat.le_refl _))
theorem cd_ok {a : Nat} {i j : Int} (hj : 0 < j) (h : Sm a j) (h9 : a ≤ 9000) : CD i j := ⟨hj, by
  have h' : Sm 9000 j := h.mono h9
  exact h'.log (by decide)⟩
theorem sm_of {n : Nat} {x : Int} (h1 : -(2 ^ n) < x) (h2 : x < 2 ^ n) : Sm n x := by
  unfold Sm
  have e : ((2 ^ n : Nat) : Int) = 2 ^ n := by simp
  omega
theorem Sm.lt {n : Nat} {x : Int} (h : Sm n x) : x < 2 ^ n := by
  unfold Sm at h
  have e : ((2 ^ n : Nat) : Int) = 2 ^ n := by simp
  omega
theorem Sm.gt {n : Nat} {x : Int} (h : Sm n x) : -(2 ^ n) < x := by
  unfold Sm at h
  have e : ((2 ^ n : Nat) : Int) = 2 ^ n := by simp
  omega
end Dl
namespace Dl
open PySem L2
theorem law_start {K : PySem.W.Frag} {C : Addr} {S : DSp} (hS : ∀ ns : List Int, ns.length ≤ 63 → ∀ (M : Mem) (R : DR) (X : DX), (∀ M', R (.bl true) M') → S [.scr ns] M R X) (H : Hp) (a : Addr) (ns : List Int) (hl : ns.length ≤ 63) (ho : Only H) (hs : SqL K H a (ns.map V.int)) :
    spD ⟨K, C⟩ 1 S [.ref a] H (fun v _ => v = .bl true) fun _ _ _ => False := by
  refine ⟨[.scr ns], fun _ => none, fun d _ => d = .bl true, rfl, IsL.cons ?_ IsL.nil, fun _ _ e => (nomatch e), hS ns hl _ _ _ fun _ => rfl, fun d M' x H' _ i _ e => ?_⟩
  · unfold Is
    refine ⟨a, rfl, ?_⟩
    rcases hs with (h | ⟨o, h⟩) | h
    · rcases ho a with z | ⟨o, xs, z⟩
      · rw [h] at z; cases z
      · rw [h] at z; cases z
    · exact .inl ⟨rfl, o, h⟩
    · exact .inr h
  · subst e
    unfold Is at i
    exact i
def isIntD : D → Bool
  | .int _ => true
  | _ => false
theorem cp1 : CP 10 18 := ⟨by decide, by decide +kernel⟩
theorem cp2 : CP 10 60 := ⟨by decide, by decide +kernel⟩
theorem cp3 : CP (10 ^ (60 : Int).toNat) 10 := ⟨by decide, by decide +kernel⟩
theorem cp3' : CP (10 ^ 60) 10 := ⟨by decide, by decide +kernel⟩
theorem cp4 : CP 10 12 := ⟨by decide, by decide +kernel⟩
theorem cp5 : CP 10 6 := ⟨by decide, by decide +kernel⟩
theorem cp6 : CP 10 15 := ⟨by decide, by decide +kernel⟩
theorem cp7 : CP 10 29 := ⟨by decide, by decide +kernel⟩
theorem cp8 : CP 10 9 := ⟨by decide, by decide +kernel⟩
theorem mulR {x y : Int} (h1 : -18446744073709551616 < y) (h2 : y < 18446744073709551616) : IntMulOk x y := .of_right (intBits_le_64 (Int.lt_of_le_of_lt (by decide +kernel) h1) (Int.lt_of_lt_of_le h2 (by decide +kernel)))
theorem mulL {x y : Int} (h1 : -18446744073709551616 < x) (h2 : x < 18446744073709551616) : IntMulOk x y := .of_left (intBits_le_64 (Int.lt_of_le_of_lt (by decide +kernel) h1) (Int.lt_of_lt_of_le h2 (by decide +kernel)))
theorem sm64 {x : Int} (h1 : -18446744073709551616 < x) (h2 : x < 18446744073709551616) : Sm 64 x := sm_of (Int.lt_of_le_of_lt (by decide +kernel) h1) (Int.lt_of_lt_of_le h2 (by decide +kernel))
theorem cdS {i j : Int} (h1 : 0 < j) (h2 : j < 18446744073709551616) : CD i j := cd_ok (a := 64) h1 (sm64 (by omega) h2) (by decide)
def PurseOk (b : Int) (m : MO) : Prop := ∃ g0 g1 g2 : Int, m = .lst [.int g0, .int g1, .int g2] ∧ 0 ≤ g2 ∧ g2 ≤ b
theorem PurseOk.mono {b c : Int} {m : MO} (h : PurseOk b m) (hb : b ≤ c) : PurseOk c m := let ⟨g0, g1, g2, e, h0, h1⟩ := h; ⟨g0, g1, g2, e, h0, Int.le_trans h1 hb⟩
theorem dom_sw {M : Mem} {a : Addr} {m m' : MO} : ∀ b, (mset M a m b).isSome = true → (mset M a m' b).isSome = true := fun b h => by
  unfold mset at h ⊢
  split
  · rfl
  · rename_i e; rw [if_neg e] at h; exact h
theorem fin_sw {M : Mem} {a : Addr} {m m' : MO} {R : DR} {d : D} (h : R d (mset M a m')) (p : pureD d = true := by rfl) : fin (mset M a m) R d (mset M a m') := ⟨d, _, Sub.refl, dom_sw, .inl ⟨rfl, .inl p⟩, h⟩
end Dl
namespace Dl
open PySem L2
theorem e_vVar (i : Nat) (γ : Gm) (M : Mem) (R : DR) : (vVar i γ M R) = (match gt γ i with
    | some d => R d M
    | none => False) := propext Iff.rfl
theorem e_vC (d : D) (x0_ : Gm) (M : Mem) (R : DR) : (vC d x0_ M R) = (R d M) := propext Iff.rfl
theorem e_vOp (o : DO) (a b : DE) (γ : Gm) (M : Mem) (R : DR) : (vOp o a b γ M R) = (a γ M fun x M1 => b γ M1 fun y M2 => o x y M2 R) := propext Iff.rfl
theorem e_vNeg (a : DE) (γ : Gm) (M : Mem) (R : DR) : (vNeg a γ M R) = (a γ M fun d M1 => match d with
    | .int i => R (.int (-i)) M1
    | _ => False) := propext Iff.rfl
theorem e_vNil  (x0_ : Gm) (M : Mem) (R : List D → Mem → Prop) : (vNil  x0_ M R) = (R [] M) := propext Iff.rfl
theorem e_vCons (a : DE) (r : DA) (γ : Gm) (M : Mem) (R : List D → Mem → Prop) : (vCons a r γ M R) = (a γ M fun d M1 => r γ M1 fun ds M2 => R (d :: ds) M2) := propext Iff.rfl
theorem e_vTup (a : DA) (γ : Gm) (M : Mem) (R : DR) : (vTup a γ M R) = (a γ M fun ds M1 => ds.length ≤ sizeLine ∧ R (.tup ds) M1) := propext Iff.rfl
theorem e_vLst (a : DA) (γ : Gm) (M : Mem) (R : DR) : (vLst a γ M R) = (a γ M fun ds M1 => ds.length ≤ sizeLine ∧ R (.lst ds) M1) := propext Iff.rfl
theorem e_vLstO (a : DA) (γ : Gm) (M : Mem) (R : DR) : (vLstO a γ M R) = (a γ M fun ds M1 => ds.length ≤ sizeLine ∧ pureL ds = true ∧ ∀ p, M1 p = none → R (.own p) (mset M1 p (.lst ds))) := propext Iff.rfl
theorem e_vIxC (n : Nat) (a : DE) (γ : Gm) (M : Mem) (R : DR) : (vIxC n a γ M R) = (a γ M fun d M1 => match seqI M1 d with
    | some ds => (match nthD ds n with
      | some x => R x M1
      | none => False)
    | none => False) := propext Iff.rfl
theorem e_vNoPart  (x0_ : Gm) (M : Mem) (R : Option Int → Mem → Prop) : (vNoPart  x0_ M R) = (R none M) := propext Iff.rfl
theorem e_vPart (a : DE) (γ : Gm) (M : Mem) (R : Option Int → Mem → Prop) : (vPart a γ M R) = (a γ M fun d M1 => match d with
    | .int i => R (some i) M1
    | _ => False) := propext Iff.rfl
theorem e_vSl (a : DE) (l h : DPt) (γ : Gm) (M : Mem) (R : DR) : (vSl a l h γ M R) = (a γ M fun d M1 => l γ M1 fun lo M2 => h γ M2 fun hi M3 => isTup d = false ∧ match seqI M3 d with
    | some ds => R (.lst (cutD ds lo hi)) M3
    | none => False) := propext Iff.rfl
theorem e_vB (v : DE) (γ : Gm) (M : Mem) (R : Bool → Mem → Prop) : (vB v γ M R) = (v γ M fun d M1 => match d with
    | .bl b => R b M1
    | _ => False) := propext Iff.rfl
theorem e_vIsN (f : Bool → Bool) (a : DE) (γ : Gm) (M : Mem) (R : DR) : (vIsN f a γ M R) = (a γ M fun d M1 => R (.bl (f (isNon d))) M1) := propext Iff.rfl
theorem e_vAnd (a b : DT) (γ : Gm) (M : Mem) (R : Bool → Mem → Prop) : (vAnd a b γ M R) = (a γ M fun k M1 => (k = true → b γ M1 R) ∧ (k = false → R false M1)) := propext Iff.rfl
theorem e_vOr (a b : DT) (γ : Gm) (M : Mem) (R : Bool → Mem → Prop) : (vOr a b γ M R) = (a γ M fun k M1 => (k = true → R true M1) ∧ (k = false → b γ M1 R)) := propext Iff.rfl
theorem e_vNot (a : DT) (γ : Gm) (M : Mem) (R : Bool → Mem → Prop) : (vNot a γ M R) = (a γ M fun k M1 => R (!k) M1) := propext Iff.rfl
theorem e_vAndV (a b : DE) (γ : Gm) (M : Mem) (R : DR) : (vAndV a b γ M R) = (a γ M fun d M1 => match d with
    | .bl k => (k = true → b γ M1 R) ∧ (k = false → R (.bl false) M1)
    | _ => False) := propext Iff.rfl
theorem e_vNotV (a : DE) (γ : Gm) (M : Mem) (R : DR) : (vNotV a γ M R) = (a γ M fun d M1 => match d with
    | .bl k => R (.bl (!k)) M1
    | _ => False) := propext Iff.rfl
theorem e_vIte (t : DT) (a b : DE) (γ : Gm) (M : Mem) (R : DR) : (vIte t a b γ M R) = (t γ M fun k M1 => (k = true → a γ M1 R) ∧ (k = false → b γ M1 R)) := propext Iff.rfl
theorem e_vCB (o : DC) (a : DA) (γ : Gm) (M : Mem) (R : DR) : (vCB o a γ M R) = (a γ M fun ds M1 => o ds M1 R) := propext Iff.rfl
theorem e_vBits (a : DE) (γ : Gm) (M : Mem) (R : DR) : (vBits a γ M R) = (a γ M fun d M1 => match d with
    | .int i => R (.int (Builtin.Int.intBits i : Nat)) M1
    | _ => False) := propext Iff.rfl
theorem e_vCall (n : Nat) (S : DSp) (dd : List D) (a : DA) (γ : Gm) (M : Mem) (R : DR) : (vCall n S dd a γ M R) = (a γ M fun ds M1 => (ds ++ dd).length = n ∧ S (ds ++ dd) M1 R noX) := propext Iff.rfl
theorem e_vCallK (n np nk : Nat) (S : DSp) (pick : List D → List D → List D) (a kw : DA) (γ : Gm) (M : Mem) (R : DR) : (vCallK n np nk S pick a kw γ M R) = (a γ M fun ds M1 => kw γ M1 fun zs M2 => ds.length = np ∧ zs.length = nk ∧ (pick ds zs).length = n ∧ S (pick ds zs) M2 R noX) := propext Iff.rfl
theorem e_vNext  (Ed : DEnds) (γ : Gm) (M : Mem) : (vNext  Ed γ M) = (Ed.nx γ M) := propext Iff.rfl
theorem e_vSeq (a b : DS) (Ed : DEnds) (γ : Gm) (M : Mem) : (vSeq a b Ed γ M) = (a { Ed with nx := b Ed } γ M) := propext Iff.rfl
theorem e_vBreak  (Ed : DEnds) (γ : Gm) (M : Mem) : (vBreak  Ed γ M) = (Ed.bk γ M) := propext Iff.rfl
theorem e_vDrop (a : DE) (Ed : DEnds) (γ : Gm) (M : Mem) : (vDrop a Ed γ M) = (a γ M fun _ M1 => Ed.nx γ M1) := propext Iff.rfl
theorem e_vRet (a : DE) (Ed : DEnds) (γ : Gm) (M : Mem) : (vRet a Ed γ M) = (a γ M Ed.rt) := propext Iff.rfl
theorem e_vIf (c : DT) (a b : DS) (Ed : DEnds) (γ : Gm) (M : Mem) : (vIf c a b Ed γ M) = (c γ M fun k M1 => (k = true → a Ed γ M1) ∧ (k = false → b Ed γ M1)) := propext Iff.rfl
theorem e_vNever  (x0_ : DEnds) (x1_ : Gm) (x2_ : Mem) : (vNever  x0_ x1_ x2_) = (False) := propext Iff.rfl
theorem e_dName (i : Nat) (d : D) (γ : Gm) (M : Mem) (R : Gm → Mem → Prop) : (dName i d γ M R) = (R (gset γ i (some d)) M) := propext Iff.rfl
theorem e_dNil  (ds : List D) (γ : Gm) (M : Mem) (R : Gm → Mem → Prop) : (dNil  ds γ M R) = (match ds with
    | [] => R γ M
    | _ => False) := propext Iff.rfl
theorem e_dCons (g : DG) (gs : DGs) (ds : List D) (γ : Gm) (M : Mem) (R : Gm → Mem → Prop) : (dCons g gs ds γ M R) = (match ds with
    | d :: r => g d γ M fun γ' M' => gs r γ' M' R
    | [] => False) := propext Iff.rfl
theorem e_dTup (n : Nat) (gs : DGs) (d : D) (γ : Gm) (M : Mem) (R : Gm → Mem → Prop) : (dTup n gs d γ M R) = (match d with
    | .tup ds => ds.length = n ∧ gs ds γ M R
    | _ => False) := propext Iff.rfl
theorem e_dSub (o i : DE) (d : D) (γ : Gm) (M : Mem) (R : Gm → Mem → Prop) : (dSub o i d γ M R) = (o γ M fun od M1 => i γ M1 fun id M2 => match od, id with
    | .own a, .int k => (match M2 a with
      | some (.lst ds) => pureD d = true ∧ ∃ j, ixN ds.length k = some j ∧ R γ (mset M2 a (.lst (ds.set j d)))
      | _ => False)
    | _, _ => False) := propext Iff.rfl
theorem e_vAsg (a : DE) (g : DG) (Ed : DEnds) (γ : Gm) (M : Mem) : (vAsg a g Ed γ M) = (a γ M fun d M1 => g d γ M1 Ed.nx) := propext Iff.rfl
theorem e_vPar (i j : Nat) (a : DA) (Ed : DEnds) (γ : Gm) (M : Mem) : (vPar i j a Ed γ M) = (a γ M fun ds M1 => match ds with
    | [x, y] => Ed.nx (gset (gset γ i (some x)) j (some y)) M1
    | _ => False) := propext Iff.rfl
theorem e_vAug (i : Nat) (f : Int → Int → Int) (a : DE) (Ed : DEnds) (γ : Gm) (M : Mem) : (vAug i f a Ed γ M) = (match gt γ i with
    | some (.int x) => a γ M fun d M1 => (match d with
      | .int y => Ed.nx (gset γ i (some (.int (f x y)))) M1
      | _ => False)
    | _ => False) := propext Iff.rfl
theorem e_wList (a : DE) (γ : Gm) (M : Mem) (R : ItD → Mem → Prop) : (wList a γ M R) = (a γ M fun d M1 => match isTup d, seqI M1 d with
    | false, some ds => R (liD d ds) M1
    | _, _ => False) := propext Iff.rfl
theorem e_wTup (a : DE) (γ : Gm) (M : Mem) (R : ItD → Mem → Prop) : (wTup a γ M R) = (a γ M fun d M1 => match d with
    | .tup ds => R ⟨ds, fun _ => True⟩ M1
    | _ => False) := propext Iff.rfl
theorem e_wRng1 (a : DA) (γ : Gm) (M : Mem) (R : ItD → Mem → Prop) : (wRng1 a γ M R) = (a γ M fun ds M1 => match ds with
    | [.int j] => -(2 ^ 62) ≤ j ∧ j < 2 ^ 62 ∧ R ⟨rngD 0 j.toNat, fun _ => True⟩ M1
    | _ => False) := propext Iff.rfl
theorem e_vYes  (x0_ : Gm) (M : Mem) (R : Bool → Mem → Prop) : (vYes  x0_ M R) = (R true M) := propext Iff.rfl
theorem e_vAppend (o e : DE) (γ : Gm) (M : Mem) (R : DR) : (vAppend o e γ M R) = (o γ M fun od M1 => match od with
    | .own a => lstAt M1 a = true ∧ e γ M1 fun d M2 => (match M2 a with
      | some (.lst ds) => pureD d = true ∧ ds.length < sizeLine ∧ R .non (mset M2 a (.lst (ds ++ [d])))
      | _ => False)
    | _ => False) := propext Iff.rfl
theorem e_frt (M : Mem) (R : DR) : (fEnds M R).rt = fin M R := id rfl
theorem e_fnx (M : Mem) (R : DR) : (fEnds M R).nx = fun _ M2 => fin M R .non M2 := id rfl
theorem e_fbk (M : Mem) (R : DR) : (fEnds M R).bk = fun _ _ => False := id rfl
theorem e_fct (M : Mem) (R : DR) : (fEnds M R).ct = fun _ _ => False := id rfl
end Dl
namespace Dl
open PySem L2
section
variable {M : Mem} {R : DR} {i j : Int} {xs ys ds : List D} {x y : Str} {a b : Addr} {k l : Bool}
theorem f_oI {K : Int → Int → Prop} {g : Int → Int → D} : oI K g (.int i) (.int j) M R = (K i j ∧ R (g i j) M) := propext Iff.rfl
theorem f_oI0 {g : Int → Int → D} : oI0 g (.int i) (.int j) M R = R (g i j) M := propext Iff.rfl
theorem f_addI : oAdd (.int i) (.int j) M R = R (.int (i + j)) M := propext Iff.rfl
theorem f_addS : oAdd (.str x) (.str y) M R = (x.length + y.length ≤ sizeLine ∧ R (.str (x ++ y)) M) := propext Iff.rfl
theorem f_addLL : oAdd (.lst xs) (.lst ys) M R = (xs.length + ys.length ≤ sizeLine ∧ R (.lst (xs ++ ys)) M) := propext Iff.rfl
theorem f_addOL : oAdd (.own a) (.lst ys) M R = (match M a with | some (.lst xs) => xs.length + ys.length ≤ sizeLine ∧ R (.lst (xs ++ ys)) M | _ => False) := by
  cases h : M a with
  | none => simp only [oAdd, lstI, h]
  | some m => cases m <;> simp only [oAdd, lstI, h]
theorem f_addLO : oAdd (.lst xs) (.own a) M R = (match M a with | some (.lst ys) => xs.length + ys.length ≤ sizeLine ∧ R (.lst (xs ++ ys)) M | _ => False) := by
  cases h : M a with
  | none => simp only [oAdd, lstI, h]
  | some m => cases m <;> simp only [oAdd, lstI, h]
theorem f_eqI {f : Bool → Bool} : oEqG f (.int i) (.int j) M R = R (.bl (f (decide (i = j)))) M := propext Iff.rfl
theorem shaped_bl (b : Bool) : SeqAt.shaped (.bool b) = true := by cases b <;> decide +kernel
theorem shaped_non : SeqAt.shaped .none = true := by decide +kernel
theorem f_eqB {f : Bool → Bool} : oEqG f (.bl k) (.bl l) M R = R (.bl (f (k == l))) M := by
  show (SeqAt.shaped (.bool k) = true ∧ SeqAt.shaped (.bool l) = true ∧ R (.bl (f (PyData.eqv (.bool k) (.bool l)))) M) = _
  rw [shaped_bl, shaped_bl]
  simp only [true_and]
  exact propext Iff.rfl
theorem f_eqNI {f : Bool → Bool} : oEqG f .non (.int j) M R = R (.bl (f false)) M := by
  show (SeqAt.shaped .none = true ∧ SeqAt.shaped (.int j) = true ∧ R (.bl (f (PyData.eqv .none (.int j)))) M) = _
  rw [shaped_non, shaped_int]
  simp only [true_and]
  exact propext Iff.rfl
theorem f_eqIN {f : Bool → Bool} : oEqG f (.int j) .non M R = R (.bl (f false)) M := by
  show (SeqAt.shaped (.int j) = true ∧ SeqAt.shaped .none = true ∧ R (.bl (f (PyData.eqv (.int j) .none))) M) = _
  rw [shaped_non, shaped_int]
  simp only [true_and]
  exact propext Iff.rfl
theorem f_eqNN {f : Bool → Bool} : oEqG f .non .non M R = R (.bl (f true)) M := by
  show (SeqAt.shaped .none = true ∧ SeqAt.shaped .none = true ∧ R (.bl (f (PyData.eqv .none .none))) M) = _
  rw [shaped_non]
  simp only [true_and]
  exact propext Iff.rfl
theorem f_ixL : oIx (.lst xs) (.int i) M R = (∃ x, atI xs i = some x ∧ R x M) := propext Iff.rfl
theorem f_ixT : oIx (.tup xs) (.int i) M R = (∃ x, atI xs i = some x ∧ R x M) := propext Iff.rfl
theorem f_ixS {ns : List Int} : oIx (.scr ns) (.int i) M R = (∃ x, atI (ns.map D.int) i = some x ∧ R x M) := propext Iff.rfl
theorem f_ixO : oIx (.own a) (.int i) M R = (match M a with | some (.lst xs) => (∃ x, atI xs i = some x ∧ R x M) | _ => False) := by
  cases h : M a with
  | none => simp only [oIx, seqI, h]
  | some m => cases m <;> simp only [oIx, seqI, h]
theorem f_C1 {g : Int → D} : oC1 g [.int i] M R = R (g i) M := propext Iff.rfl
theorem f_C2 {g : Int → Int → D} : oC2 g [.int i, .int j] M R = R (g i j) M := propext Iff.rfl
theorem f_intI : oInt [.int i] M R = R (.int i) M := propext Iff.rfl
theorem f_intB : oInt [.bl k] M R = R (.int (if k then 1 else 0)) M := propext Iff.rfl
theorem f_lenS : oLen [.str x] M R = (x.length ≤ sizeLine ∧ R (.int x.length) M) := propext Iff.rfl
theorem f_lenL : oLen [.lst xs] M R = R (.int xs.length) M := propext Iff.rfl
theorem f_lenT : oLen [.tup xs] M R = R (.int xs.length) M := propext Iff.rfl
theorem f_lenC {ns : List Int} : oLen [.scr ns] M R = R (.int (ns.map D.int).length) M := propext Iff.rfl
theorem f_lenO : oLen [.own a] M R = (match M a with | some (.lst xs) => R (.int xs.length) M | _ => False) := by
  cases h : M a with
  | none => simp only [oLen, seqI, h]
  | some m => cases m <;> simp only [oLen, seqI, h]
theorem f_listL : oList [.lst xs] M R = R (.lst xs) M := propext Iff.rfl
theorem f_listT : oList [.tup xs] M R = R (.lst xs) M := propext Iff.rfl
theorem f_listOL : oListO [.lst xs] M R = (pureL xs = true ∧ ∀ p, M p = none → R (.own p) (mset M p (.lst xs))) := propext Iff.rfl
theorem f_listOT : oListO [.tup xs] M R = (pureL xs = true ∧ ∀ p, M p = none → R (.own p) (mset M p (.lst xs))) := propext Iff.rfl
theorem f_sumL : oSum [.lst xs] M R = (match intsD xs with | some ns => R (.int ns.sum) M | none => False) := propext Iff.rfl
theorem f_sqL : seqI M (.lst xs) = some xs := id rfl
theorem f_sqT : seqI M (.tup xs) = some xs := id rfl
theorem f_sqC {ns : List Int} : seqI M (.scr ns) = some (ns.map D.int) := id rfl
theorem f_sqO : seqI M (.own a) = (match M a with | some (.lst xs) => some xs | _ => none) := id rfl
theorem f_itL : isTup (.lst xs) = false := id rfl
theorem f_itT : isTup (.tup xs) = true := id rfl
theorem f_itC {ns : List Int} : isTup (.scr ns) = false := id rfl
theorem f_itO : isTup (.own a) = false := id rfl
theorem f_tyN : tyD .non = some .non := id rfl
theorem f_tyB : tyD (.bl k) = some .bl := id rfl
theorem f_tyI : tyD (.int i) = some .int := id rfl
theorem f_tyS : tyD (.str x) = some .str := id rfl
theorem f_tyT : tyD (.tup xs) = some .tup := id rfl
theorem f_tyL : tyD (.lst xs) = some .lst := id rfl
theorem f_tyO : tyD (.own a) = none := id rfl
theorem f_tmN : tyM M .non = some .non := id rfl
theorem f_tmB : tyM M (.bl k) = some .bl := id rfl
theorem f_tmI : tyM M (.int i) = some .int := id rfl
theorem f_tmS : tyM M (.str x) = some .str := id rfl
theorem f_tmT : tyM M (.tup xs) = some .tup := id rfl
theorem f_tmL : tyM M (.lst xs) = some .lst := id rfl
theorem f_tmD {ks : List Key} : tyM M (.dct ks xs) = some .dct := id rfl
theorem f_tmO : tyM M (.own a) = (match M a with | some (.lst _) => some .lst | some (.dct _ _) => some .dct | _ => none) := id rfl
theorem f_nN : isNon .non = true := id rfl
theorem f_nB : isNon (.bl k) = false := id rfl
theorem f_nI : isNon (.int i) = false := id rfl
theorem f_nS : isNon (.str x) = false := id rfl
theorem f_nT : isNon (.tup xs) = false := id rfl
theorem f_nL : isNon (.lst xs) = false := id rfl
theorem f_nO : isNon (.own a) = false := id rfl
theorem f_nLn {t p o : Int} : isNon (.ln t p o) = false := id rfl
theorem f_wN : isIntD .non = false := id rfl
theorem f_wB : isIntD (.bl k) = false := id rfl
theorem f_wI : isIntD (.int i) = true := id rfl
theorem f_wS : isIntD (.str x) = false := id rfl
theorem f_wT : isIntD (.tup xs) = false := id rfl
theorem f_wL : isIntD (.lst xs) = false := id rfl
theorem f_wO : isIntD (.own a) = false := id rfl
end
theorem vfor_rng1 {va : DA} {g : DG} {b : DS} {Ed : DEnds} {γ : Gm} {M : Mem} (k : Int) (hva : ∀ F : List D → Mem → Prop, F [.int k] M → va γ M F) (hk0 : -4611686018427387904 ≤ k) (hk1 : k < 4611686018427387904) (W : Nat → Gm → Mem → Prop) (h0 : W 0 γ M)
    (step : ∀ i γ' M', W i γ' M' → i < k.toNat → g (.int (i : Int)) γ' M' fun γ2 M2 => b { Ed with nx := W (i + 1), ct := W (i + 1), bk := Ed.nx } γ2 M2) (hd : ∀ γ' M', W k.toNat γ' M' → Ed.nx γ' M') : vFor (wRng1 va) g b Ed γ M :=
  hva _ ⟨hk0, hk1, W, h0, fun _ _ _ _ => trivial, fun i d γ' M' w hq => by
    obtain ⟨hlt, rfl⟩ := (rngD_get _ _ _ _).mp hq
    rw [Int.zero_add]
    exact step i γ' M' w hlt, fun γ' M' w => by
    have e : (rngD 0 k.toNat).length = k.toNat := rngD_len 0 k.toNat
    exact hd γ' M' (by rw [← e]; exact w)⟩
theorem vfor_list {ve : DE} {g : DG} {b : DS} {Ed : DEnds} {γ : Gm} {M M1 : Mem} (ds : List D) (hve : ∀ F : DR, F (.lst ds) M1 → ve γ M F) (W : Nat → Gm → Mem → Prop) (h0 : W 0 γ M1)
    (step : ∀ i d γ' M', W i γ' M' → ds[i]? = some d → g d γ' M' fun γ2 M2 => b { Ed with nx := W (i + 1), ct := W (i + 1), bk := Ed.nx } γ2 M2) (hd : ∀ γ' M', W ds.length γ' M' → Ed.nx γ' M') : vFor (wList ve) g b Ed γ M :=
  hve _ ⟨W, h0, fun _ _ _ _ => rfl, step, hd⟩
theorem vWhile_of {c : DT} {b : DS} {Ed : DEnds} {γ : Gm} {M : Mem} (W : Nat → Gm → Mem → Prop) (h0 : ∃ m, W m γ M)
    (h : ∀ m γ' M', W m γ' M' → c γ' M' fun k M1 => (k = true → b { Ed with nx := fun γ2 M2 => ∃ m2, m2 < m ∧ W m2 γ2 M2, ct := fun γ2 M2 => ∃ m2, m2 < m ∧ W m2 γ2 M2, bk := Ed.nx } γ' M1) ∧ (k = false → Ed.nx γ' M1)) : vWhile c b Ed γ M := ⟨W, h0, h⟩
end Dl
namespace Dl
open PySem L2
section
variable {X : Cx} {C : Addr} {e e2 : Expr} {ve vb : DE} {pos : Pos}
end
theorem Sub.more {M M' : Mem} {p : Addr} {m : MO} (h : Sub M M') (hp : M' p = none) : Sub M (mset M' p m) := fun a n e => Sub.set hp a n (h a n e)
theorem cut_to (xs : List D) (k : Int) (h : 0 ≤ k) : cutD xs none (some k) = xs.take k.toNat := by
  obtain ⟨k, rfl⟩ := Int.eq_ofNat_of_zero_le h
  unfold cutD
  rw [HT.sIx_none, HT.sIx_nat, Int.toNat_natCast]
  simp only [List.drop_zero, Nat.sub_zero]
  rcases Nat.le_total k xs.length with h | h
  · rw [Nat.min_eq_left h]
  · rw [Nat.min_eq_right h, List.take_of_length_le (Nat.le_refl _), List.take_of_length_le h]
theorem cut_from (xs : List D) (k : Int) (h : 0 ≤ k) : cutD xs (some k) none = xs.drop k.toNat := by
  obtain ⟨k, rfl⟩ := Int.eq_ofNat_of_zero_le h
  unfold cutD
  rw [HT.sIx_none, HT.sIx_nat, Int.toNat_natCast]
  rcases Nat.le_total k xs.length with h | h
  · rw [Nat.min_eq_left h]
    exact List.take_of_length_le (by rw [List.length_drop]; exact Nat.le_refl _)
  · rw [Nat.min_eq_right h, List.drop_of_length_le (Nat.le_refl _), List.drop_of_length_le h]
    simp
end Dl
namespace Dl
open PySem L2
theorem isL3 {G : Gx} {M : Mem} {H : Hp} {d f g : D} {xs : List V} (h : IsL G M H [d, f, g] xs) : ∃ v u w, xs = [v, u, w] ∧ Is G M H d v ∧ Is G M H f u ∧ Is G M H g w := by
  match xs, h with
  | v :: r, h =>
    unfold IsL at h
    obtain ⟨u, w, e, i, j⟩ := isL2 h.2
    exact ⟨v, u, w, by rw [e], h.1, i, j⟩
section
variable {X : Cx} {C : Addr} {o e : Expr} {vo ve : DE} {pos apos : Pos}
def vPop (o : DE) : DE := fun γ M R => o γ M fun od M1 => match od with
  | .own a => (match M1 a with
    | some (.lst ds) => (match ds[ds.length - 1]? with
      | some d => R d (mset M1 a (.lst ds.dropLast))
      | none => False)
    | _ => False)
  | _ => False
theorem e_vPop (o : DE) (γ : Gm) (M : Mem) (R : DR) : vPop o γ M R = (o γ M fun od M1 => match od with
  | .own a => (match M1 a with
    | some (.lst ds) => (match ds[ds.length - 1]? with
      | some d => R d (mset M1 a (.lst ds.dropLast))
      | none => False)
    | _ => False)
  | _ => False) := propext Iff.rfl
theorem pureL_dropLast : ∀ {ds : List D}, pureL ds = true → pureL ds.dropLast = true
  | [], _ => rfl
  | [_], _ => rfl
  | d :: f :: r, h => by
    unfold pureL at h ⊢
    rw [Bool.and_eq_true] at h
    show (pureD d && pureL (f :: r).dropLast) = true
    rw [h.1, pureL_dropLast h.2]; rfl
theorem isL_dropLast {G : Gx} {M : Mem} {H : Hp} : ∀ {ds : List D} {xs : List V}, IsL G M H ds xs → IsL G M H ds.dropLast xs.dropLast
  | [], [], _ => IsL.nil
  | [], _ :: _, h => by unfold IsL at h; exact h.elim
  | _ :: _, [], h => by unfold IsL at h; exact h.elim
  | [_], [_], _ => IsL.nil
  | [_], _ :: _ :: _, h => by unfold IsL at h; have h2 := h.2; unfold IsL at h2; exact h2.elim
  | _ :: _ :: _, [_], h => by unfold IsL at h; have h2 := h.2; unfold IsL at h2; exact h2.elim
  | d :: f :: r, x :: y :: s, h => by
    unfold IsL at h
    exact IsL.cons h.1 (isL_dropLast h.2)
theorem q_pop (ho : QE X C o vo) (hpe : ∀ {to : TE}, PE X o to → PE X (.Call (.Attribute o "pop" apos) [] [] pos) (tBM X.K "list" rPop to tNil) := by exact fun h1 => pe_bm0 PySem.F.plainAttrs_list PySem.F.slot_list_pop PySem.F.type_list_pop mt_pop h1) : QE X C (.Call (.Attribute o "pop" apos) [] [] pos) (vPop vo) := by
  obtain ⟨to, po, so⟩ := ho.ex
  refine ⟨_, hpe po, fun γ M R σ H Q r h k => so γ M _ σ H _ r h fun od M1 x H1 o1 i1 e1 h1 => ?_⟩
  cases od with
  | own a =>
    have j1 := i1
    unfold Is at j1
    have hq : lstAt M1 a = true := by
      simp only at h1
      split at h1
      · rename_i q; exact lstAt_of q
      · exact h1.elim
    obtain ⟨ds, xs, q, pu, ha, hl⟩ := own_list o1 hq
    rw [j1.1]
    simp only [q] at h1
    split at h1
    · rename_i d hd
      obtain ⟨v, hv, iv⟩ := hl.get hd
      refine ⟨.inl ⟨rfl, xs, SqL.of ha⟩, a, xs, v, rfl, rfl, ha, by rw [← hl.len]; exact hv, ?_⟩
      exact k d (mset M1 a (.lst ds.dropLast)) v _ (o1.put j1.2 (pureL_dropLast pu) (isL_dropLast hl)) (Is.ext (Ext.put j1.2) _ _ iv) (e1.trans (Ext.put j1.2)) h1
    · exact h1.elim
  | _ => exact False.elim h1
end
end Dl
namespace Dl
open PySem L2
section
variable {X : Cx} {C : Addr} {e : Expr} {pos : Pos}
def enumF : Nat → List D → List D
  | _, [] => []
  | i, d :: r => .tup [.int (i : Int), d] :: enumF (i + 1) r
theorem enumF_len : ∀ (i : Nat) (ds : List D), (enumF i ds).length = ds.length
  | _, [] => rfl
  | i, d :: r => by show (enumF (i + 1) r).length + 1 = r.length + 1; rw [enumF_len (i + 1) r]
theorem enumF_get : ∀ (i j : Nat) (ds : List D) (d : D), (enumF i ds)[j]? = some d → ∃ x, ds[j]? = some x ∧ d = .tup [.int ((i + j : Nat) : Int), x]
  | _, _, [], _, h => by simp [enumF] at h
  | i, 0, x :: r, d, h => by
    refine ⟨x, rfl, ?_⟩
    have : some (D.tup [.int (i : Int), x]) = some d := h
    cases this
    rfl
  | i, j + 1, x :: r, d, h => by
    obtain ⟨y, h1, h2⟩ := enumF_get (i + 1) j r d h
    refine ⟨y, h1, ?_⟩
    rw [h2]
    have : i + 1 + j = i + (j + 1) := by omega
    rw [this]
def liE (d : D) (ds : List D) : ItD := ⟨enumF 0 ds, fun M => seqI M d = some ds⟩
def wEnum (a : DA) : DI := fun γ M R => a γ M fun es M1 => match es with
  | [d] => (match isTup d, seqI M1 d with
    | false, some ds => R (liE d ds) M1
    | _, _ => False)
  | _ => False
theorem e_wEnum (a : DA) (γ : Gm) (M : Mem) (R : ItD → Mem → Prop) : wEnum a γ M R = (a γ M fun es M1 => match es with
  | [d] => (match isTup d, seqI M1 d with
    | false, some ds => R (liE d ds) M1
    | _, _ => False)
  | _ => False) := propext Iff.rfl
theorem qi_enum {va : DA} {p tpos : Pos} {elts : List Expr} {kk : Nat} (hm : X.mg "enumerate" = none) (ha : QA X C [e] va) (hg : Gl X "enumerate" := by rfl) (hs : starEach [e] X.env = [(false, eval e X.env)] := by rfl) : QI X C (.Tuple elts kk tpos) (.Call (.Name "enumerate" p) [e] [] pos) (wEnum va) := by
  obtain ⟨t, p, s⟩ := ha.ex
  refine ⟨_, pi_enum hg hm p hs, fun γ M R σ H Q r h k => s γ M _ σ H _ r h fun es M1 zs H1 o1 i1 e1 h1 => ?_⟩
  match es, h1 with
  | [d], h1 =>
    obtain ⟨x, ez, i1⟩ := isL1 i1
    simp only at h1
    cases q : isTup d with
    | true => rw [q] at h1; exact h1.elim
    | false =>
      cases q2 : seqI M1 d with
      | none => rw [q, q2] at h1; exact h1.elim
      | some ds =>
        rw [q, q2] at h1
        obtain ⟨a, xs, ex, l, sq⟩ := seq_at o1 i1 q2
        rcases sq with ⟨_, sq⟩ | ⟨z, _⟩
        · refine ⟨a, xs, by rw [ez, ex], sq, k _ _ M1 H1 o1 e1 ?_ h1⟩
          intro M' H' x' o' st i
          obtain ⟨a', xs', ex', l', sq'⟩ := seq_at o' (Is.ext x' d x i1) st
          have ea : a' = a := by rw [ex] at ex'; cases ex'; rfl
          subst ea
          rcases sq' with ⟨_, sq'⟩ | ⟨z, _⟩
          · refine ⟨fun d' hd => ?_, fun hn => ⟨xs', sq', by rw [← l'.len]; rw [show (liE d ds).its.length = ds.length from enumF_len 0 ds] at hn; exact hn⟩⟩
            obtain ⟨d2, h2, rfl⟩ := enumF_get 0 i ds d' hd
            obtain ⟨v, hv, iv⟩ := l'.get h2
            refine ⟨⟨xs', v, sq', hv⟩, fun y H2 hy => ?_⟩
            obtain ⟨T, u, ey, hT, eH, hu⟩ := hy
            subst eH
            have eu := hu xs' sq'
            rw [hv] at eu
            cases eu
            rw [ey, Nat.zero_add]
            exact ⟨o'.new hT, new_tup o' hT (IsL.cons is_int (IsL.cons iv IsL.nil)), Ext.new hT⟩
          · rw [q] at z; cases z
        · rw [q] at z; cases z
def strsD : List D → Option (List Str)
  | [] => some []
  | .str x :: r => (strsD r).map (x :: ·)
  | _ => none
def oInG (f : Bool → Bool) : DO := fun d t M R => match d, t with
  | .str z, .tup ds => (match strsD ds with
    | some ws => (ws.all fun x => PyData.strOk x) = true ∧ PyData.strOk z = true ∧ R (.bl (f (ws.any fun x => x == z))) M
    | none => False)
  | _, _ => False
end
mutual
def cmpD : Nat → D → Bool
  | _, .non => true
  | _, .bl _ => true
  | _, .int _ => true
  | _, .str x => PyData.strOk x
  | n + 1, .tup ds => cmpL n ds
  | n + 1, .lst ds => cmpL n ds
  | _, _ => false
def cmpL : Nat → List D → Bool
  | _, [] => true
  | n, d :: ds => cmpD n d && cmpL n ds
end
mutual
theorem cmpD_ok : ∀ (n : Nat) (d : D), cmpD n d = true → ∃ p, toP d = some p ∧ p.canLay0 = true ∧ p.depth ≤ n
  | _, .non, _ => ⟨_, rfl, rfl, Nat.zero_le _⟩
  | _, .bl _, _ => ⟨_, rfl, rfl, Nat.zero_le _⟩
  | _, .int _, _ => ⟨_, rfl, rfl, Nat.zero_le _⟩
  | _, .str x, h => ⟨.str x, rfl, by unfold cmpD at h; exact h, Nat.zero_le _⟩
  | n + 1, .tup ds, h => by
    unfold cmpD at h
    obtain ⟨ps, e, c, dp⟩ := cmpL_ok n ds h
    exact ⟨.tuple ps, by unfold toP; rw [e]; rfl, c, by unfold PyData.depth; omega⟩
  | n + 1, .lst ds, h => by
    unfold cmpD at h
    obtain ⟨ps, e, c, dp⟩ := cmpL_ok n ds h
    exact ⟨.list ps, by unfold toP; rw [e]; rfl, c, by unfold PyData.depth; omega⟩
  | 0, .tup _, h => by unfold cmpD at h; cases h
  | 0, .lst _, h => by unfold cmpD at h; cases h
  | _, .scr _, h => by unfold cmpD at h; cases h
  | _, .ln _ _ _, h => by unfold cmpD at h; cases h
  | _, .own _, h => by unfold cmpD at h; cases h
theorem cmpL_ok : ∀ (n : Nat) (ds : List D), cmpL n ds = true → ∃ ps, toPL ds = some ps ∧ PyData.canLayAll0 ps = true ∧ PyData.depthAll ps ≤ n
  | _, [], _ => ⟨[], rfl, rfl, Nat.zero_le _⟩
  | n, d :: ds, h => by
    unfold cmpL at h
    rw [Bool.and_eq_true] at h
    obtain ⟨p, e, c, dp⟩ := cmpD_ok n d h.1
    obtain ⟨ps, e2, c2, dp2⟩ := cmpL_ok n ds h.2
    refine ⟨p :: ps, by unfold toPL; rw [e, e2], ?_, ?_⟩
    · unfold PyData.canLayAll0; rw [c, c2]; rfl
    · unfold PyData.depthAll; omega
end
theorem shaped_of {d : D} (h : cmpD 64 d = true) : ∃ p, toP d = some p ∧ SeqAt.shaped p = true ∧ PyData.eqv p p = true := by
  obtain ⟨p, e, c, dp⟩ := cmpD_ok 64 d h
  exact ⟨p, e, by unfold SeqAt.shaped; rw [c, decide_eq_true dp]; rfl, SeqAt.eqv_refl p c⟩
theorem toPt_pure {M : Mem} {d : D} {p : PyData} (h : toP d = some p) : toPt M d = some p := by
  cases d with
  | own a => unfold toP at h; cases h
  | _ => exact h
theorem eqG_of {f : Bool → Bool} {M : Mem} {R : DR} {d e : D} {p q : PyData} (h1 : toPt M d = some p) (h2 : toPt M e = some q) (s1 : SeqAt.shaped p = true) (s2 : SeqAt.shaped q = true) (hR : R (.bl (f (PyData.eqv p q))) M) : oEqG f d e M R := by
  unfold oEqG
  split
  · rename_i i j
    have a1 : some (PyData.int i) = some p := h1
    have a2 : some (PyData.int j) = some q := h2
    cases a1
    cases a2
    rw [← beq_dec]
    exact hR
  · rw [h1, h2]
    exact ⟨s1, s2, hR⟩
theorem eqG_self {f : Bool → Bool} {M : Mem} {R : DR} {d : D} (h : cmpD 64 d = true) (hR : R (.bl (f true)) M) : oEqG f d d M R := by
  obtain ⟨p, e, s, r⟩ := shaped_of h
  exact eqG_of (toPt_pure e) (toPt_pure e) s s (by rw [r]; exact hR)
theorem cmp_ints (n : Nat) : ∀ xs : List Int, cmpL n (xs.map D.int) = true
  | [] => by unfold cmpL; rfl
  | x :: r => by
    show cmpL n (D.int x :: r.map D.int) = true
    unfold cmpL
    rw [cmp_ints n r]
    cases n <;> rfl
theorem word_ok (s : String) : PyData.strOk (Str.ofString s) = true := by
  rw [Str.ofString_eq_toList]
  unfold PyData.strOk
  rw [Array.all_eq_true']
  intro n hn
  simp only [List.mem_toArray, List.mem_map] at hn
  obtain ⟨c, _, rfl⟩ := hn
  refine decide_eq_true ?_
  have h := c.valid
  have e : c.toNat = c.val.toNat := rfl
  unfold UInt32.isValidChar Nat.isValidChar at h
  omega
theorem toNat_inj {a b : Char} (h : a.toNat = b.toNat) : a = b := by
  have e : a.val.toNat = b.val.toNat := h
  exact Char.ext (UInt32.toNat_inj.mp e)
theorem map_toNat_inj : ∀ {as bs : List Char}, as.map Char.toNat = bs.map Char.toNat → as = bs
  | [], [], _ => rfl
  | [], _ :: _, h => by simp at h
  | _ :: _, [], h => by simp at h
  | a :: as, b :: bs, h => by
    simp only [List.map_cons, List.cons.injEq] at h
    rw [toNat_inj h.1, map_toNat_inj h.2]
theorem word_inj {a b : String} (h : Str.ofString a = Str.ofString b) : a = b := by
  rw [Str.ofString_eq_toList, Str.ofString_eq_toList] at h
  have h1 : (a.toList.map Char.toNat).toArray = (b.toList.map Char.toNat).toArray := Str.mk.inj h
  have h2 : a.toList.map Char.toNat = b.toList.map Char.toNat := by
    have := congrArg Array.toList h1
    exact this
  exact String.toList_inj.mp (map_toNat_inj h2)
theorem word_beq (a b : String) : (Str.ofString a == Str.ofString b) = decide (a = b) := by
  by_cases h : a = b
  · subst h; simp
  · rw [decide_eq_false h]
    exact beq_eq_false_iff_ne.mpr fun z => h (word_inj z)
theorem shaped_str {x : Str} (h : PyData.strOk x = true) : SeqAt.shaped (.str x) = true := by
  unfold SeqAt.shaped
  rw [Bool.and_eq_true]
  exact ⟨h, decide_eq_true (Nat.zero_le _)⟩
theorem f_eqW (f : Bool → Bool) (a b : String) (M : Mem) (R : DR) : oEqG f (.str (Str.ofString a)) (.str (Str.ofString b)) M R = R (.bl (f (decide (a = b)))) M := by
  refine propext ⟨fun h => ?_, fun h => ?_⟩
  · have h' : SeqAt.shaped (.str (Str.ofString a)) = true ∧ SeqAt.shaped (.str (Str.ofString b)) = true ∧ R (.bl (f (Str.ofString a == Str.ofString b))) M := h
    rw [← word_beq]
    exact h'.2.2
  · refine eqG_of (p := .str (Str.ofString a)) (q := .str (Str.ofString b)) rfl rfl (shaped_str (word_ok a)) (shaped_str (word_ok b)) ?_
    show R (.bl (f (Str.ofString a == Str.ofString b))) M
    rw [word_beq]
    exact h
theorem f_in2 (f : Bool → Bool) (z a b : String) (M : Mem) (R : DR) : oInG f (.str (Str.ofString z)) (.tup [.str (Str.ofString a), .str (Str.ofString b)]) M R = R (.bl (f (decide (a = z) || decide (b = z)))) M := by
  have e : oInG f (.str (Str.ofString z)) (.tup [.str (Str.ofString a), .str (Str.ofString b)]) M R = (([Str.ofString a, Str.ofString b].all fun x => PyData.strOk x) = true ∧ PyData.strOk (Str.ofString z) = true ∧ R (.bl (f ([Str.ofString a, Str.ofString b].any fun x => x == Str.ofString z))) M) := propext Iff.rfl
  rw [e]
  simp [word_ok, word_beq]
theorem f_in4 (f : Bool → Bool) (z a b c d : String) (M : Mem) (R : DR) : oInG f (.str (Str.ofString z)) (.tup [.str (Str.ofString a), .str (Str.ofString b), .str (Str.ofString c), .str (Str.ofString d)]) M R = R (.bl (f (decide (a = z) || (decide (b = z) || (decide (c = z) || decide (d = z)))))) M := by
  have e : oInG f (.str (Str.ofString z)) (.tup [.str (Str.ofString a), .str (Str.ofString b), .str (Str.ofString c), .str (Str.ofString d)]) M R = (([Str.ofString a, Str.ofString b, Str.ofString c, Str.ofString d].all fun x => PyData.strOk x) = true ∧ PyData.strOk (Str.ofString z) = true ∧ R (.bl (f ([Str.ofString a, Str.ofString b, Str.ofString c, Str.ofString d].any fun x => x == Str.ofString z))) M) := propext Iff.rfl
  rw [e]
  simp [word_ok, word_beq]
theorem at_nat {ds : List D} {i : Nat} {d : D} (h : ds[i]? = some d) : atI ds (i : Int) = some d := by
  have hi : i < ds.length := (List.getElem?_eq_some_iff.mp h).1
  have e : ixN ds.length (i : Int) = some i := by
    unfold ixN
    rw [if_pos (by omega), if_pos (by omega), Int.toNat_natCast]
  unfold atI
  rw [e]
  exact h
theorem at_int {vs : List Int} {i : Nat} {v : Int} (h : vs[i]? = some v) : atI (vs.map D.int) (i : Int) = some (.int v) := at_nat (by rw [List.getElem?_map, h]; rfl)
end Dl
namespace Dl
open PySem L2
section
variable {X : Cx} {C : Addr} {e e2 : Expr} {pos : Pos}
def oMax1 : DC := fun ds M R => match ds with
  | [d] => (match intsOf M d with
    | some ns => 0 < ns.length ∧ ∀ m, m ∈ ns → (∀ y ∈ ns, y ≤ m) → R (.int m) M
    | none => False)
  | _ => False
def oMin1 : DC := fun ds M R => match ds with
  | [d] => (match intsOf M d with
    | some ns => 0 < ns.length ∧ ∀ m, m ∈ ns → (∀ y ∈ ns, m ≤ y) → R (.int m) M
    | none => False)
  | _ => False
theorem e_oMax1 (ds : List D) (M : Mem) (R : DR) : oMax1 ds M R = (match ds with
  | [d] => (match intsOf M d with
    | some ns => 0 < ns.length ∧ ∀ m, m ∈ ns → (∀ y ∈ ns, y ≤ m) → R (.int m) M
    | none => False)
  | _ => False) := propext Iff.rfl
theorem e_oMin1 (ds : List D) (M : Mem) (R : DR) : oMin1 ds M R = (match ds with
  | [d] => (match intsOf M d with
    | some ns => 0 < ns.length ∧ ∀ m, m ∈ ns → (∀ y ∈ ns, m ≤ y) → R (.int m) M
    | none => False)
  | _ => False) := propext Iff.rfl
theorem b_max1 (hc : X.calm = true := by rfl) : BQ X C (.builtin "max") oMax1 := ⟨_, cr_max hc, fun ds M R H xs Q o i1 h k => by
  match ds, h with
  | [d], h =>
    obtain ⟨v, e, q⟩ := isL1 i1
    unfold oMax1 at h
    simp only at h
    split at h
    · rename_i ns e2
      obtain ⟨a, e3, s⟩ := ints_at o q e2
      exact ⟨a, ns, by rw [e, e3], s, h.1, fun m h1 h2 => k _ M _ H o is_int Ext.refl (h.2 m h1 h2)⟩
    · exact h.elim⟩
theorem b_min1 (hc : X.calm = true := by rfl) : BQ X C (.builtin "min") oMin1 := ⟨_, cr_min hc, fun ds M R H xs Q o i1 h k => by
  match ds, h with
  | [d], h =>
    obtain ⟨v, e, q⟩ := isL1 i1
    unfold oMin1 at h
    simp only at h
    split at h
    · rename_i ns e2
      obtain ⟨a, e3, s⟩ := ints_at o q e2
      exact ⟨a, ns, by rw [e, e3], s, h.1, fun m h1 h2 => k _ M _ H o is_int Ext.refl (h.2 m h1 h2)⟩
    · exact h.elim⟩
theorem f_intsL {M : Mem} {xs : List D} : intsOf M (.lst xs) = intsD xs := id rfl
end
theorem lc_still {j : ItD} {g : DG} {t : DT} {e : DE} {vs : List Nat} {γ : Gm} {M : Mem} {R : DR} (Pa : Nat → List D → Prop) (a0 : Pa 0 []) (hl : ∀ i acc, Pa i acc → acc.length < sizeLine) (hst : ∀ p acc, M p = none → j.st (mset M p (.lst acc)))
    (step : ∀ i acc d p, M p = none → Pa i acc → j.its[i]? = some d → g d (gwipe γ vs) (mset M p (.lst acc)) fun γ2 M2 => t γ2 M2 fun b M3 =>
      (b = true → e γ2 M3 fun y M4 => pureD y = true ∧ ∃ M5, M4 = mset M5 p (.lst acc) ∧ M5 = M ∧ Pa (i + 1) (acc ++ [y])) ∧ (b = false → ∃ M5, M3 = mset M5 p (.lst acc) ∧ M5 = M ∧ Pa (i + 1) acc))
    (hR : ∀ acc, Pa j.its.length acc → R (.lst acc) M) :
    ∀ p, M p = none → ∃ W : Nat → List D → Mem → Prop, W 0 [] M ∧
      (∀ i acc M', W i acc M' → M' p = none ∧ acc.length < sizeLine ∧ j.st (mset M' p (.lst acc))) ∧
      (∀ i acc M' d, W i acc M' → j.its[i]? = some d → g d (gwipe γ vs) (mset M' p (.lst acc)) fun γ2 M2 => t γ2 M2 fun b M3 =>
        (b = true → e γ2 M3 fun y M4 => pureD y = true ∧ ∃ M5, M4 = mset M5 p (.lst acc) ∧ W (i + 1) (acc ++ [y]) M5) ∧ (b = false → ∃ M5, M3 = mset M5 p (.lst acc) ∧ W (i + 1) acc M5)) ∧
      (∀ acc M', W j.its.length acc M' → R (.lst acc) M') := by
  intro p hp
  refine ⟨fun i acc M' => M' = M ∧ Pa i acc, ⟨rfl, a0⟩, ?_, ?_, ?_⟩
  · rintro i acc M' ⟨rfl, ha⟩
    exact ⟨hp, hl i acc ha, hst p acc hp⟩
  · rintro i acc M' d ⟨rfl, ha⟩ hd
    exact step i acc d p hp ha hd
  · rintro acc M' ⟨rfl, ha⟩
    exact hR acc ha
theorem vlc_tup {ve : DE} {g : DG} {t : DT} {e : DE} {vs : List Nat} {γ : Gm} {M M1 : Mem} {R : DR} (ds : List D) (hve : ∀ F : DR, F (.tup ds) M1 → ve γ M F) (Pa : Nat → List D → Prop) (a0 : Pa 0 []) (hl : ∀ i acc, Pa i acc → acc.length < sizeLine)
    (step : ∀ i acc d p, M1 p = none → Pa i acc → ds[i]? = some d → g d (gwipe γ vs) (mset M1 p (.lst acc)) fun γ2 M2 => t γ2 M2 fun b M3 =>
      (b = true → e γ2 M3 fun y M4 => pureD y = true ∧ ∃ M5, M4 = mset M5 p (.lst acc) ∧ M5 = M1 ∧ Pa (i + 1) (acc ++ [y])) ∧ (b = false → ∃ M5, M3 = mset M5 p (.lst acc) ∧ M5 = M1 ∧ Pa (i + 1) acc))
    (hR : ∀ acc, Pa ds.length acc → R (.lst acc) M1) : vLc (wTup ve) g t e vs γ M R :=
  hve _ (lc_still (j := ⟨ds, fun _ => True⟩) Pa a0 hl (fun _ _ _ => trivial) step hR)
theorem seqI_own {M : Mem} {a : Addr} {ds : List D} (h : M a = some (.lst ds)) : seqI M (.own a) = some ds := by
  show (match M a with | some (.lst xs) => some xs | _ => none) = _
  rw [h]
def vSeqJ (a b : DS) : DS := fun Ed γ M => ∃ J : Gm → Mem → Prop, a { Ed with nx := J } γ M ∧ ∀ γ' M', J γ' M' → b Ed γ' M'
section
variable {X : Cx} {C : Addr} {st : Stmt} {rest : List Stmt} {v u : DS}
theorem qss_cut (h1 : QS X C st v) (h2 : QSs X C rest u) : QSs X C (st :: rest) (vSeqJ v u) := by
  obtain ⟨t1, p1, s1⟩ := h1.ex
  obtain ⟨t2, p2, s2⟩ := h2.ex
  refine ⟨_, pss_cons p1 p2, fun Ed γ M σ H E r l h => ?_⟩
  obtain ⟨J, ha, hb⟩ := h
  exact s1 { Ed with nx := J } γ M σ H { E with nx := t2 E } r ⟨fun γ' M' σ' H' r' e' h' => s2 Ed γ' M' σ' H' E r' (l.ext e') (hb γ' M' h'), l.rt, l.bk, l.ct, l.xx⟩ ha
end
theorem sz1 : (1 ≤ sizeLine) = True := eq_true (by decide)
theorem sz2 : (2 ≤ sizeLine) = True := eq_true (by decide)
theorem sz3 : (3 ≤ sizeLine) = True := eq_true (by decide)
theorem sz4 : (4 ≤ sizeLine) = True := eq_true (by decide)
theorem sz5 : (5 ≤ sizeLine) = True := eq_true (by decide)
theorem sz6 : (6 ≤ sizeLine) = True := eq_true (by decide)
theorem sz7 : (7 ≤ sizeLine) = True := eq_true (by decide)
theorem sz8 : (8 ≤ sizeLine) = True := eq_true (by decide)
theorem sz9 : (9 ≤ sizeLine) = True := eq_true (by decide)
theorem sz10 : (10 ≤ sizeLine) = True := eq_true (by decide)
theorem sz11 : (11 ≤ sizeLine) = True := eq_true (by decide)
theorem sz12 : (12 ≤ sizeLine) = True := eq_true (by decide)
theorem sz13 : (13 ≤ sizeLine) = True := eq_true (by decide)
theorem sz14 : (14 ≤ sizeLine) = True := eq_true (by decide)
theorem sz15 : (15 ≤ sizeLine) = True := eq_true (by decide)
theorem sz16 : (16 ≤ sizeLine) = True := eq_true (by decide)
theorem sl0 : (0 < sizeLine) = True := eq_true (by decide)
theorem sl1 : (1 < sizeLine) = True := eq_true (by decide)
theorem sl2 : (2 < sizeLine) = True := eq_true (by decide)
theorem sl3 : (3 < sizeLine) = True := eq_true (by decide)
theorem sl4 : (4 < sizeLine) = True := eq_true (by decide)
theorem sl5 : (5 < sizeLine) = True := eq_true (by decide)
theorem sl6 : (6 < sizeLine) = True := eq_true (by decide)
theorem sl7 : (7 < sizeLine) = True := eq_true (by decide)
theorem sl8 : (8 < sizeLine) = True := eq_true (by decide)
theorem sl9 : (9 < sizeLine) = True := eq_true (by decide)
theorem sl10 : (10 < sizeLine) = True := eq_true (by decide)
theorem sl11 : (11 < sizeLine) = True := eq_true (by decide)
theorem sl12 : (12 < sizeLine) = True := eq_true (by decide)
theorem sl13 : (13 < sizeLine) = True := eq_true (by decide)
theorem sl14 : (14 < sizeLine) = True := eq_true (by decide)
theorem sl15 : (15 < sizeLine) = True := eq_true (by decide)
theorem sl16 : (16 < sizeLine) = True := eq_true (by decide)
end Dl
namespace Dl
open PySem L2
def isLn : D → Bool
  | .ln _ _ _ => true
  | _ => false
theorem ln_at {G : Gx} {M : Mem} {H : Hp} {d : D} {v : V} (h : Is G M H d v) (e : isLn d = true) : ∃ a dx q, v = .ref a ∧ H a = some (.ins G.C dx (fLine q)) := by
  cases d with
  | ln t p o =>
    unfold Is at h
    obtain ⟨a, dx, q, e1, _, ha, _⟩ := h
    exact ⟨a, dx, q, e1, ha⟩
  | _ => cases e
def vObj (n : Nat) (S : DSp) (o : DE) (a : DA) : DE := fun γ M R => o γ M fun d M1 => isLn d = true ∧ a γ M1 fun ds M2 => ds.length + 1 = n ∧ S (d :: ds) M2 R noX
theorem e_vObj (n : Nat) (S : DSp) (o : DE) (a : DA) (γ : Gm) (M : Mem) (R : DR) : vObj n S o a γ M R = (o γ M fun d M1 => isLn d = true ∧ a γ M1 fun ds M2 => ds.length + 1 = n ∧ S (d :: ds) M2 R noX) := propext Iff.rfl
theorem f_lnL {t p o : Int} : isLn (.ln t p o) = true := id rfl
structure MOk (P : Program) (w : World) (K : PySem.W.Frag) (mg : Str → Option Value) (base : Heap) (C : Addr) (k : Nat) (m : Str) (n : Nat) (S : DSp) : Prop where
  ex : ∃ (f : Addr) (fd : FuncData) (ps : List Str), Cls K C ∧ Meth K C m f ∧ (m == ("parts" : Str)) = false ∧ FnOk P w K mg base CX0 k f fd ps (spD ⟨K, C⟩ n S) ∧ Binds K fd ps []
structure POk (P : Program) (w : World) (K : PySem.W.Frag) (mg : Str → Option Value) (base : Heap) (C : Addr) (k : Nat) (f : Str) (S : DSp) : Prop where
  ex : ∃ (p g : Addr) (fd : FuncData) (ps : List Str), Cls K C ∧ PropOf K C f p g ∧ FnOk P w K mg base CX0 k g fd ps (spD ⟨K, C⟩ 1 S) ∧ Binds K fd ps []
structure COk (P : Program) (w : World) (K : PySem.W.Frag) (mg : Str → Option Value) (base : Heap) (C : Addr) (k n : Nat) (S : DSp) : Prop where
  ex : ∃ (g : Addr) (fd : FuncData) (ps : List Str), StX.CallO K C g ∧ FnOk P w K mg base CX0 k g fd ps (spD ⟨K, C⟩ n S) ∧ Binds K fd ps []
structure UOk (P : Program) (w : World) (K : PySem.W.Frag) (mg : Str → Option Value) (base : Heap) (C : Addr) (k : Nat) (m : Str) (n : Nat) (S : DSp) : Prop where
  ex : ∃ (f : Addr) (fd : FuncData) (ps : List Str), PySem.W.findIn K (.ref C) m = some (some (.ref f)) ∧ PySem.W.isFn K (.ref f) = true ∧ FnOk P w K mg base CX0 k f fd ps (spD ⟨K, C⟩ n S) ∧ Binds K fd ps []
structure BinF (K : PySem.W.Frag) (C : Addr) (op : Operator) : Prop where
  first : PySem.W.selfFirst K C = true
  r : PySem.W.findIn K (.ref C) (dunderR op.info.2) = some none
  ii : ∃ fo, PySem.W.findIn K (.type "int") (PySem.dunder op.info.2) = some fo
  ir : ∃ ro, PySem.W.findIn K (.type "int") (dunderR op.info.2) = some ro
  sub : PySem.W.subIn K (.type "int") (.ref C) = some false
section
variable {X : Cx} {C : Addr} {j k n : Nat} {S : DSp} {o e fe : Expr} {es : List Expr} {vo vf : DE} {va : DA} {m : Str} {pos apos : Pos}
theorem raw0 {P : Program} {w : World} {K : PySem.W.Frag} {mg : Str → Option Value} {base : Heap} {f : Addr} {fd : FuncData} {ps : List Str} {sp : Sp} (F : FnOk P w K mg base CX0 k f fd ps sp) (hb : Binds K fd ps []) : FnR P w K mg base CX0 k f sp :=
  (F.raw hb .nil).imp fun vs H Q E h => by rw [List.append_nil]; exact h
theorem spD_of {G : Gx} {M M1 M2 : Mem} {R : DR} {d : D} {ds : List D} {x : V} {xs : List V} {H H1 H2 : Hp} {Q : VK} (hl : ds.length + 1 = n) (i1 : Is G M1 H1 d x) (o2 : Own G M2 H2) (i2 : IsL G M2 H2 ds xs) (e1 : Ext M M1 H H1) (e2 : Ext M1 M2 H1 H2) (hs : S (d :: ds) M2 R noX)
    (k : ∀ d M' x H', Own G M' H' → Is G M' H' d x → Ext M M' H H' → R d M' → Q x H') (E : XK) : spD G n S (x :: xs) H2 Q E :=
  ⟨d :: ds, M2, R, hl, IsL.cons (Is.ext e2 d x i1) i2, o2, hs, fun d' M3 y H3 o3 i3 e3 h3 => k d' M3 y H3 o3 i3 ((e1.trans e2).trans e3) h3⟩
theorem q_prop (h : POk X.prog X.w X.K X.mg X.base C k m S) (hr : Room j X.A) (hkj : k + 1 ≤ j) (ho : QE X C o vo) (hab : attributeBase o m X.env (eval o X.env) = eval o X.env := by rfl) : QE X C (.Attribute o m pos) (vObj 1 S vo vNil) := by
  obtain ⟨p, g, fd, ps, c, hp, F, hb⟩ := h.ex
  obtain ⟨to, po, so⟩ := ho.ex
  refine ⟨_, pe_prop po c hp F (hr.mono hkj) hb .nil (E := E0) pass0 hab, fun γ M R σ H Q r h kk => so γ M _ σ H _ r h fun d M1 x H1 o1 i1 e1 h1 => ?_⟩
  obtain ⟨hd, h1⟩ := h1
  obtain ⟨a, dx, q, ex, hx⟩ := ln_at i1 hd
  refine ⟨a, dx, _, ex, hx, ?_⟩
  rw [← ex]
  exact spD_of h1.1 i1 o1 IsL.nil e1 Ext.refl h1.2 kk _
theorem q_callO (h : COk X.prog X.w X.K X.mg X.base C k n S) (hr : Room j X.A) (hkj : k ≤ j) (hf : QE X C fe vf) (ha : QA X C (e :: es) va)
    (ht : eval (.Call fe (e :: es) [] pos) X.env = (do callWith pos (← eval fe X.env) [] (backTo pos (starEach (e :: es) X.env)) (backToKw pos (keywordEach [] X.env))) := by rfl)
    (he : starEach (e :: es) X.env = (false, eval e X.env) :: starEach es X.env := by rfl) (hpl : (backTo pos (starEach es X.env)).any (·.1) = false := by rfl) : QE X C (.Call fe (e :: es) [] pos) (vObj n S vf va) := by
  obtain ⟨g, fd, ps, c, F, hb⟩ := h.ex
  obtain ⟨to, po, so⟩ := hf.ex
  obtain ⟨ta, pa, sa⟩ := ha.ex
  refine ⟨_, StX.pe_callO (E := E0) po c (raw0 F hb) (hr.mono hkj) pass0 pa ht he hpl, fun γ M R σ H Q r h kk => so γ M _ σ H _ r h fun d M1 x H1 o1 i1 e1 h1 => ?_⟩
  obtain ⟨hd, h1⟩ := h1
  obtain ⟨a, dx, q, ex, hx⟩ := ln_at i1 hd
  refine ⟨a, ex, sa γ M1 _ σ H1 _ (r.mk' e1 o1) h1 fun ds M2 xs H2 o2 i2 e2 h2 => ⟨?_, ?_⟩⟩
  · obtain ⟨a', dx', q', ex', hx'⟩ := ln_at (Is.ext e2 d x i1) hd
    have : a' = a := by rw [ex] at ex'; cases ex'; rfl
    subst this
    exact .inr ⟨dx', _, hx'⟩
  · rw [← ex]
    exact spD_of h2.1 i1 o2 i2 e1 e2 h2.2 kk _
theorem inv_fr {pins : List (Addr × Obj)} {σ : St} {H : Hp} {s : Shared} (I : Inv X pins σ H s) : ∃ m, PyProof.Rows.Fr X.base X.env.locals s.heap m := by
  obtain ⟨m, hm, _⟩ := I.loc
  exact ⟨m, hm, fun b o e => (I.bs b o e).1, Nat.le_trans I.ok.bsz I.ok.above⟩
theorem inst_at {pins : List (Addr × Obj)} {σ : St} {H : Hp} {s : Shared} {a dx : Addr} {fs : List (Str × V)} (I : Inv X pins σ H s) (ea : H a = some (.ins C dx fs)) : ∃ ox od, PySem.W.InstAt s.heap a ox C od := by
  obtain ⟨mA, O, _⟩ := ins_get I.hok ea
  obtain ⟨od, J, _⟩ := O.look
  exact ⟨_, _, J⟩
def rUnO (C : Addr) (sp : Sp) : V → Hp → VK → Prop := fun x H Q => ∃ a dx fs, x = .ref a ∧ H a = some (.ins C dx fs) ∧ sp [x] H Q E0
theorem un_negO {f : Addr} {sp : Sp} (hs : PySem.W.findIn X.K (.ref C) "__neg__" = some (some (.ref f))) (hf : PySem.W.isFn X.K (.ref f) = true) (F : FnR X.prog X.w X.K X.mg X.base CX0 k f sp) (hr : Room k X.A) : UnR X (unaryOp .USub) (rUnO C sp) := by
  intro pins s σ H x v Q I rx h
  obtain ⟨a, dx, fs, rfl, ea, hsp⟩ := h
  obtain rfl : v = Value.ref a := rx
  obtain ⟨m, Fr⟩ := inv_fr I
  obtain ⟨ox, od, J⟩ := inst_at I ea
  exact PySem.W.ksp_neg Fr I.ok.mod.kin J hs hf (wpAny_call (run_fnR (E := E0) (us := [.ref a]) (vs := [.ref a]) F hr pass0 I (.cons rfl .nil) hsp))
def rBinO (C : Addr) (sp : Sp) : R2 := fun x y H Q => ∃ a dx fs i, x = .ref a ∧ H a = some (.ins C dx fs) ∧ y = .int i ∧ sp [x, y] H Q E0
theorem cmpBack {pins : List (Addr × Obj)} {σ : St} {Q : VK} {v : Value} {s : Shared} (h : EP X pins σ Q v s) : PySem.W.CmpBack (EP X pins σ Q) v s := by
  cases v with
  | notImplemented =>
    obtain ⟨x, H, _, r, _⟩ := h
    cases x <;> first | (obtain ⟨_, r⟩ := r; cases r; done) | (cases r; done)
  | _ => exact h
theorem op_binO {op : Operator} {f : Addr} {sp : Sp} (hs : PySem.W.findIn X.K (.ref C) (PySem.dunder op.info.2) = some (some (.ref f))) (hf : PySem.W.isFn X.K (.ref f) = true) (B : BinF X.K C op) (F : FnR X.prog X.w X.K X.mg X.base CX0 k f sp) (hr : Room k X.A) : OpR X (binaryOp op) (rBinO C sp) := by
  intro pins s σ H x y v u Q I rx ry h
  obtain ⟨a, dx, fs, i, rfl, ea, rfl, hsp⟩ := h
  obtain rfl : v = Value.ref a := rx
  obtain ⟨t, rfl⟩ := ry
  obtain ⟨m, Fr⟩ := inv_fr I
  obtain ⟨ox, od, J⟩ := inst_at I ea
  obtain ⟨fo, h1⟩ := B.ii
  obtain ⟨ro, h2⟩ := B.ir
  refine PySem.W.ksp_binT (T := "int") Fr I.ok.mod.kin J rfl B.first hs hf B.r (.inl rfl) h1 h2 B.sub ?_
  refine wpAny_mono (wpAny_call (run_fnR (E := E0) (us := [.ref a, .int i t]) (vs := [.ref a, .int i]) F hr pass0 I (.cons rfl (.cons ⟨t, rfl⟩ .nil)) hsp)) (fun v s' z => cmpBack z) fun _ _ z => z
def vNegL (S : DSp) (a : DE) : DE := fun γ M R => a γ M fun d M1 => isLn d = true ∧ S [d] M1 R noX
theorem e_vNegL (S : DSp) (a : DE) (γ : Gm) (M : Mem) (R : DR) : vNegL S a γ M R = (a γ M fun d M1 => isLn d = true ∧ S [d] M1 R noX) := propext Iff.rfl
theorem q_negL (h : UOk X.prog X.w X.K X.mg X.base C k "__neg__" 1 S) (hr : Room j X.A) (hkj : k ≤ j) (ho : QE X C o vo) : QE X C (.UnaryOp .USub o pos) (vNegL S vo) := by
  obtain ⟨f, fd, ps, hm, hf, F, hb⟩ := h.ex
  obtain ⟨to, po, so⟩ := ho.ex
  refine ⟨_, pe_un (un_negO hm hf (raw0 F hb) (hr.mono hkj)) po, fun γ M R σ H Q r h kk => so γ M _ σ H _ r h fun d M1 x H1 o1 i1 e1 h1 => ?_⟩
  obtain ⟨a, dx, q, ex, hx⟩ := ln_at i1 h1.1
  exact ⟨a, dx, _, ex, hx, spD_of rfl i1 o1 IsL.nil e1 Ext.refl h1.2 kk _⟩
def oBinL (S : DSp) : DO := fun d e M R => isLn d = true ∧ isIntD e = true ∧ S [d, e] M R noX
theorem e_oBinL (S : DSp) (d e : D) (M : Mem) (R : DR) : oBinL S d e M R = (isLn d = true ∧ isIntD e = true ∧ S [d, e] M R noX) := propext Iff.rfl
theorem sndO_binL {G : Gx} : SndO G (rBinO G.C (spD G 2 S)) (oBinL S) := fun d e M R H x y Q o i1 i2 h kk => by
  obtain ⟨h1, h2, h3⟩ := h
  obtain ⟨a, dx, q, ex, hx⟩ := ln_at i1 h1
  cases e with
  | int i =>
    have i3 := i2
    unfold Is at i3
    exact ⟨a, dx, _, i, ex, hx, i3, spD_of rfl i1 o (IsL.cons i2 IsL.nil) Ext.refl Ext.refl h3 kk _⟩
  | _ => cases h2
theorem q_binL {op : Operator} (h : UOk X.prog X.w X.K X.mg X.base C k (PySem.dunder op.info.2) 2 S) (B : BinF X.K C op) (hr : Room j X.A) (hkj : k ≤ j) (ho : QE X C o vo) (he : QE X C e vf) : QE X C (.BinOp o op e pos) (vOp (oBinL S) vo vf) := by
  obtain ⟨f, fd, ps, hm, hf, F, hb⟩ := h.ex
  exact qe_op (op_binO hm hf B (raw0 F hb) (hr.mono hkj)) sndO_binL ho he
def vParts (a : DE) : DE := fun γ M R => a γ M fun d M1 => match d with
  | .ln t p o => R (.tup [.int t, .int p, .int o]) M1
  | _ => False
theorem e_vParts (a : DE) (γ : Gm) (M : Mem) (R : DR) : vParts a γ M R = (a γ M fun d M1 => match d with
  | .ln t p o => R (.tup [.int t, .int p, .int o]) M1
  | _ => False) := propext Iff.rfl
theorem q_parts (c : Cls X.K C) (n : NoAttr X.K C "parts") (ho : QE X C o vo) (hab : attributeBase o "parts" X.env (eval o X.env) = eval o X.env := by rfl) : QE X C (.Attribute o "parts" pos) (vParts vo) := by
  obtain ⟨to, po, so⟩ := ho.ex
  refine ⟨_, pe_fld po hab, fun γ M R σ H Q r h kk => so γ M _ σ H _ r h fun d M1 x H1 o1 i1 e1 h1 => ?_⟩
  cases d with
  | ln t p o =>
    have i2 := i1
    unfold Is at i2
    obtain ⟨a, dx, q, ex, ma, ha, mq, hq⟩ := i2
    refine ⟨a, C, dx, _, .ref q, ex, ha, c, n, rfl, ?_⟩
    refine kk _ M1 _ H1 o1 ?_ e1 h1
    unfold Is
    exact ⟨q, _, rfl, mq, hq, IsL.cons is_int (IsL.cons is_int (IsL.cons is_int IsL.nil))⟩
  | _ => exact False.elim h1
def spLn (C : Addr) : Sp := fun vs H Q _ => ∃ x dx t p o, vs = [.ref x, .int t, .int p, .int o] ∧ H x = some (.ins C dx []) ∧ 1 ≤ o ∧
  ∀ q H', (∀ b u, b ≠ x → H b = some u → H' b = some u) → H q = none → q ≠ x → H' x = some (.ins C dx (fLine q)) → H' q = some (.tup [.int t, .int p, .int o]) → Q .non H'
structure LMk (P : Program) (w : World) (K : PySem.W.Frag) (mg : Str → Option Value) (base : Heap) (C : Addr) (k : Nat) : Prop where
  ex : ∃ (f : Addr) (fd : FuncData) (ps : List Str), mg "Line" = some (.ref C) ∧ Mk K C f ∧ FnOk P w K mg base CX0 k f fd ps (spLn C) ∧ Binds K fd ps []
def vLine (a : DA) : DE := fun γ M R => a γ M fun ds M1 => match ds with
  | [.int t, .int p, .int o] => 1 ≤ o ∧ R (.ln t p o) M1
  | _ => False
theorem e_vLine (a : DA) (γ : Gm) (M : Mem) (R : DR) : vLine a γ M R = (a γ M fun ds M1 => match ds with
  | [.int t, .int p, .int o] => 1 ≤ o ∧ R (.ln t p o) M1
  | _ => False) := propext Iff.rfl
theorem snd_line {G : Gx} {M M1 : Mem} {R : DR} {H H1 : Hp} {Q : VK} {t p o : Int} (o1 : Own G M1 H1) (e1 : Ext M M1 H H1) (ho : 1 ≤ o) (hr : R (.ln t p o) M1) (kk : ∀ d M' x H', Own G M' H' → Is G M' H' d x → Ext M M' H H' → R d M' → Q x H') :
    ∀ x dx, H1 x = none → H1 dx = none → dx ≠ x → spLn G.C (.ref x :: ([.int t, .int p, .int o] ++ [])) (upd (upd H1 dx (.own x)) x (.ins G.C dx [])) (fun v H2 => v = .non ∧ Q (.ref x) H2) E0 := by
  intro x dx hx hdx hne
  refine ⟨x, dx, t, p, o, rfl, upd_same, ho, fun q H' keep hq hqx hx' hq' => ⟨rfl, ?_⟩⟩
  have hold : ∀ b u, H1 b = some u → H' b = some u := fun b u hb => by
    have n1 : b ≠ x := fun z => by rw [z, hx] at hb; cases hb
    have n2 : b ≠ dx := fun z => by rw [z, hdx] at hb; cases hb
    exact keep b u n1 (by rw [upd_ne n1, upd_ne n2]; exact hb)
  have hq1 : H1 q = none := by
    cases z : H1 q with
    | none => rfl
    | some u =>
      have n1 : q ≠ dx := fun y => by rw [y, hdx] at z; cases z
      rw [upd_ne hqx, upd_ne n1, z] at hq
      cases hq
  have ext : Ext M1 M1 H1 H' := ⟨fun a u m h => ⟨hold a u h, m⟩, fun _ h => h⟩
  refine kk _ M1 _ H' (o1.ext ext fun a ha => ?_) ?_ (e1.trans ext) hr
  · obtain ⟨u, hu⟩ := o1.there ha
    rw [hold a u hu, hu]
  · unfold Is
    exact ⟨x, dx, q, rfl, o1.fresh hx, hx', o1.fresh hq1, hq'⟩
theorem q_line {p : Pos} (h : LMk X.prog X.w X.K X.mg X.base C k) (hr : Room j X.A) (hkj : k + 1 ≤ j) (ha : QA X C (e :: es) va) (hg : Gl X "Line" := by rfl) (he : starEach (e :: es) X.env = (false, eval e X.env) :: starEach es X.env := by rfl) (hpl : (backTo pos (starEach es X.env)).any (·.1) = false := by rfl) :
    QE X C (.Call (.Name "Line" p) (e :: es) [] pos) (vLine va) := by
  obtain ⟨f, fd, ps, hm, mk, F, hb⟩ := h.ex
  obtain ⟨ta, pa, sa⟩ := ha.ex
  refine ⟨_, pe_make (E := E0) mk F (hr.mono hkj) hg hm hb .nil pass0 pa (by decide) he hpl, fun γ M R σ H Q r h kk => sa γ M _ σ H _ r h fun ds M1 xs H1 o1 i1 e1 h1 => ?_⟩
  match ds, h1 with
  | [.int t, .int p, .int o], h1 =>
    obtain ⟨v1, v2, v3, ev, j1, j2, j3⟩ := isL3 i1
    unfold Is at j1 j2 j3
    subst ev
    subst j1
    subst j2
    subst j3
    exact snd_line o1 e1 h1.1 h1.2 kk
end
section
variable {X : Cx} {C : Addr} {j k : Nat} {S : DSp} {o e : Expr} {vo vf : DE} {pos : Pos}
structure IsiF (K : PySem.W.Frag) (mg : Str → Option Value) (C : Addr) : Prop where
  glo : mg "Line" = some (.ref C)
  kp : PySem.W.keepIn K (.ref C) = true
  cls : Cls K C
  attr : PySem.W.findIn K (.ref C) "__class__" = some (some (.builtin "object.__class__"))
  get : PySem.W.specialIn K (.builtin "object.__class__") "__get__" = some (some (.builtin "getset_descriptor.__get__"))
  tak : PySem.W.takesIn K (.builtin "object.__class__") = some true
  top : PySem.W.mroIn K C (.type "object") = some true
  no : ∀ t : Ty, PySem.W.kitOne K (.type t.nm) (.ref C) = some false
  no2 : ∀ t : Ty, PySem.W.kitOne K (.ref C) (.type t.nm) = some false
def tyL : D → Bool
  | .ln _ _ _ => true
  | d => (tyD d).isSome
def vIsL (a : DE) : DE := fun γ M R => a γ M fun d M1 => tyL d = true ∧ R (.bl (isLn d)) M1
theorem e_vIsL (a : DE) (γ : Gm) (M : Mem) (R : DR) : vIsL a γ M R = (a γ M fun d M1 => tyL d = true ∧ R (.bl (isLn d)) M1) := propext Iff.rfl
theorem q_isL {x : Str} {p p2 : Pos} (T : IsiF X.K X.mg C) (ha : QE X C o vo) (hg : Gl X x) (hm : X.mg x = none) (hv : bootBuiltins x = some (.builtin "isinstance")) (hg2 : Gl X "Line" := by rfl) (hn : x ≠ "__name__" := by decide) (hdb : (x == ("__debug__" : Str)) = false := by decide)
    (he : starEach (o :: [.Name "Line" p2]) X.env = (false, eval o X.env) :: starEach [.Name "Line" p2] X.env := by rfl) (he2 : starEach [.Name "Line" p2] X.env = (false, eval (.Name "Line" p2) X.env) :: starEach [] X.env := by rfl) (hpl : (backTo pos (starEach [.Name "Line" p2] X.env)).any (·.1) = false := by rfl) :
    QE X C (.Call (.Name x p) [o, .Name "Line" p2] [] pos) (vIsL vo) := by
  obtain ⟨ta, pa, sa⟩ := ha.ex
  refine ⟨_, pe_callB call_isi hg hm hv (pa_cons pa (pa_cons (pe_glob (v := .ref C) hg2 T.glo rfl) pa_nil he2) he) hn hdb he hpl, fun γ M R σ H Q re h k => sa γ M _ σ H _ re h fun d M1 x1 H1 o1 i1 e1 h1 => ?_⟩
  cases d with
  | ln t q o =>
    have i2 := i1
    unfold Is at i2
    obtain ⟨a, dx, q, ex, ma, hx, mq, hq⟩ := i2
    refine ⟨x1, .ref C, .ref C, _, true, rfl, .own C, ?_, ?_, k _ M1 _ H1 o1 is_bl e1 h1.2⟩
    · rw [ex]; exact .base (.ins hx T.cls T.attr T.get T.tak T.top)
    · unfold PySem.W.kitOne; simp
  | scr _ => exact absurd h1.1 Bool.false_ne_true
  | own _ => exact absurd h1.1 Bool.false_ne_true
  | exn _ _ => exact absurd h1.1 Bool.false_ne_true
  | exn0 _ => exact absurd h1.1 Bool.false_ne_true
  | cls => exact absurd h1.1 Bool.false_ne_true
  | _ =>
    refine ⟨x1, .ref C, _, _, false, rfl, .own C, tyD_ok o1 i1 rfl, T.no _, k _ M1 _ H1 o1 is_bl e1 h1.2⟩
end
open PySem.W He in
def propG (K : PySem.W.Frag) (C : Addr) (f : Str) : Addr := match PySem.W.recIn K (He.ma K C f) "property" with
  | some (.ref g :: _) => g
  | _ => 0
def propB (K : PySem.W.Frag) (C : Addr) (f : Str) : Bool := He.eqO (PySem.W.findIn K (.ref C) f) (some (some (.ref (He.ma K C f)))) && (He.eqO (PySem.W.specialIn K (.ref (He.ma K C f)) "__get__") (some (some (.builtin "property.__get__"))) && (decide (PySem.W.takesIn K (.ref (He.ma K C f)) = some true) &&
  (match PySem.W.recIn K (He.ma K C f) "property" with
    | some (.ref _ :: _) => true
    | _ => false)))
theorem propB_ok {K : PySem.W.Frag} {C : Addr} {f : Str} (h : propB K C f = true) : PropOf K C f (He.ma K C f) (propG K C f) := by
  obtain ⟨h1, h⟩ := He.ba h
  obtain ⟨h2, h⟩ := He.ba h
  obtain ⟨h3, h4⟩ := He.ba h
  refine ⟨He.eqO_ok h1, He.eqO_ok h2, of_decide_eq_true h3, ?_⟩
  unfold propG
  split at h4
  · rename_i g rest e
    exact ⟨rest, by rw [e]⟩
  · cases h4
def binB (K : PySem.W.Frag) (C : Addr) (op : Operator) : Bool := PySem.W.selfFirst K C && (He.eqO (PySem.W.findIn K (.ref C) (dunderR op.info.2)) (some none) && ((PySem.W.findIn K (.type "int") (PySem.dunder op.info.2)).isSome && ((PySem.W.findIn K (.type "int") (dunderR op.info.2)).isSome && decide (PySem.W.subIn K (.type "int") (.ref C) = some false))))
theorem binB_ok {K : PySem.W.Frag} {C : Addr} {op : Operator} (h : binB K C op = true) : BinF K C op := by
  obtain ⟨h1, h⟩ := He.ba h
  obtain ⟨h2, h⟩ := He.ba h
  obtain ⟨h3, h⟩ := He.ba h
  obtain ⟨h4, h5⟩ := He.ba h
  exact ⟨h1, He.eqO_ok h2, Option.isSome_iff_exists.mp h3, Option.isSome_iff_exists.mp h4, of_decide_eq_true h5⟩
def opB (K : PySem.W.Frag) (C : Addr) (m : Str) : Bool := He.eqO (PySem.W.findIn K (.ref C) m) (some (some (.ref (He.ma K C m)))) && PySem.W.isFn K (.ref (He.ma K C m))
theorem opB_ok {K : PySem.W.Frag} {C : Addr} {m : Str} (h : opB K C m = true) : PySem.W.findIn K (.ref C) m = some (some (.ref (He.ma K C m))) ∧ PySem.W.isFn K (.ref (He.ma K C m)) = true := ⟨He.eqO_ok (He.ba h).1, (He.ba h).2⟩
def callB (K : PySem.W.Frag) (C : Addr) : Bool := opB K C "__call__" && PySem.W.fnIn K (He.ma K C "__call__")
theorem callB_ok {K : PySem.W.Frag} {C : Addr} (h : callB K C = true) : StX.CallO K C (He.ma K C "__call__") := ⟨(opB_ok (He.ba h).1).1, (opB_ok (He.ba h).1).2, (He.ba h).2⟩
def isiB (K : PySem.W.Frag) (C : Addr) : Bool := PySem.W.keepIn K (.ref C) && (He.eqO (PySem.W.findIn K (.ref C) "__class__") (some (some (.builtin "object.__class__"))) && (He.eqO (PySem.W.specialIn K (.builtin "object.__class__") "__get__") (some (some (.builtin "getset_descriptor.__get__"))) &&
  (decide (PySem.W.takesIn K (.builtin "object.__class__") = some true) && (decide (PySem.W.mroIn K C (.type "object") = some true) && [Ty.non, .bl, .int, .str, .tup, .lst, .dct].all fun t => decide (PySem.W.kitOne K (.type t.nm) (.ref C) = some false) && decide (PySem.W.kitOne K (.ref C) (.type t.nm) = some false)))))
theorem isiB_ok {K : PySem.W.Frag} {mg : Str → Option Value} {C : Addr} (g : mg "Line" = some (.ref C)) (c : Cls K C) (h : isiB K C = true) : IsiF K mg C := by
  obtain ⟨h1, h⟩ := He.ba h
  obtain ⟨h2, h⟩ := He.ba h
  obtain ⟨h3, h⟩ := He.ba h
  obtain ⟨h4, h⟩ := He.ba h
  obtain ⟨h5, h6⟩ := He.ba h
  exact ⟨g, h1, c, He.eqO_ok h2, He.eqO_ok h3, of_decide_eq_true h4, of_decide_eq_true h5, fun t => of_decide_eq_true (He.ba (List.all_eq_true.mp h6 t (by cases t <;> simp))).1, fun t => of_decide_eq_true (He.ba (List.all_eq_true.mp h6 t (by cases t <;> simp))).2⟩
def ob2 (ex : PySem.W.Frag → Bool) (fa : List He.Fa) (fn : List He5.DefA) (K : PySem.W.Frag) : He.AlD := ((He5.obsA fa fn K).1 && ex K, (He5.obsA fa fn K).2)
def Says2 (ex : PySem.W.Frag → Bool) (fa : List He.Fa) (fn : List He5.DefA) (K : PySem.W.Frag) : Prop := ob2 ex fa fn K = He5.valA fn
theorem Says2.both {ex : PySem.W.Frag → Bool} {fa : List He.Fa} {fn : List He5.DefA} {K : PySem.W.Frag} (c : Says2 ex fa fn K) : He5.SaysA fa fn K ∧ ex K = true := by
  have c' : ob2 ex fa fn K = He5.valA fn := c
  have h1 : ((He5.obsA fa fn K).1 && ex K) = true := congrArg (fun z : He.AlD => z.1) c'
  have h2 : (ob2 ex fa fn K).2 = (He5.valA fn).2 := congrArg (fun z : He.AlD => z.2) c'
  obtain ⟨a, b⟩ := He.ba h1
  exact ⟨Prod.ext a h2, b⟩
end Dl
namespace Dl
open PySem L2
section
variable {X : Cx} {C : Addr} {o : Expr} {vo : DE} {pos apos : Pos}
end
theorem vfor_enumS {va : DA} {g : DG} {b : DS} {Ed : DEnds} {γ : Gm} {M M1 : Mem} (d : D) (ds : List D) (hva : ∀ F : List D → Mem → Prop, F [d] M1 → va γ M F) (ht : isTup d = false) (hs : seqI M1 d = some ds) (W : Nat → Gm → Mem → Prop) (h0 : W 0 γ M1) (hst : ∀ i γ' M', W i γ' M' → seqI M' d = some ds)
    (step : ∀ i x γ' M', W i γ' M' → ds[i]? = some x → g (.tup [.int (i : Int), x]) γ' M' fun γ2 M2 => b { Ed with nx := W (i + 1), ct := W (i + 1), bk := Ed.nx } γ2 M2) (hd : ∀ γ' M', W ds.length γ' M' → Ed.nx γ' M') : vFor (wEnum va) g b Ed γ M := by
  refine hva _ ?_
  show (match isTup d, seqI M1 d with | false, some ds => _ | _, _ => False)
  rw [ht, hs]
  refine ⟨W, h0, hst, fun i x γ' M' w h => ?_, fun γ' M' w => hd γ' M' (by rw [← enumF_len 0 ds]; exact w)⟩
  obtain ⟨y, h1, rfl⟩ := enumF_get 0 i ds x h
  rw [Nat.zero_add]
  exact step i y γ' M' w h1
def LsD (M : Mem) (d : D) (ds : List D) : Prop := d = .lst ds ∨ ∃ a, d = .own a ∧ M a = some (.lst ds)
theorem LsD.seq {M : Mem} {d : D} {ds : List D} (h : LsD M d ds) : isTup d = false ∧ seqI M d = some ds ∧ tyM M d = some .lst := by
  rcases h with rfl | ⟨a, rfl, h⟩
  · exact ⟨rfl, rfl, rfl⟩
  · exact ⟨rfl, seqI_own h, by rw [f_tmO, h]⟩
theorem LsD.set {M : Mem} {d : D} {ds : List D} {p : Addr} {m : MO} (h : LsD M d ds) (hp : M p = none) : LsD (mset M p m) d ds := by
  rcases h with rfl | ⟨a, rfl, h⟩
  · exact .inl rfl
  · refine .inr ⟨a, rfl, ?_⟩
    have ne : a ≠ p := fun z => by rw [z, hp] at h; cases h
    rw [mset_ne ne]; exact h
theorem lc_mf {j : ItD} {g : DG} {t : DT} {e : DE} {vs : List Nat} {γ : Gm} {M : Mem} {R : DR} (c : D → Bool) (f : D → D) (hl : j.its.length < sizeLine) (hst : ∀ p acc, M p = none → j.st (mset M p (.lst acc))) (hp : ∀ d ∈ j.its, c d = true → pureD (f d) = true)
    (step : ∀ (i : Nat) (d : D) (p : Addr) (acc : List D) (P : DR) (Q : Mem → Prop), j.its[i]? = some d → M p = none → (c d = true → P (f d) (mset M p (.lst acc))) → (c d = false → Q (mset M p (.lst acc))) →
      g d (gwipe γ vs) (mset M p (.lst acc)) fun γ2 M2 => t γ2 M2 fun b M3 => (b = true → e γ2 M3 P) ∧ (b = false → Q M3))
    (hR : R (.lst ((j.its.filter c).map f)) M) :
    ∀ p, M p = none → ∃ W : Nat → List D → Mem → Prop, W 0 [] M ∧
      (∀ i acc M', W i acc M' → M' p = none ∧ acc.length < sizeLine ∧ j.st (mset M' p (.lst acc))) ∧
      (∀ i acc M' d, W i acc M' → j.its[i]? = some d → g d (gwipe γ vs) (mset M' p (.lst acc)) fun γ2 M2 => t γ2 M2 fun b M3 =>
        (b = true → e γ2 M3 fun y M4 => pureD y = true ∧ ∃ M5, M4 = mset M5 p (.lst acc) ∧ W (i + 1) (acc ++ [y]) M5) ∧ (b = false → ∃ M5, M3 = mset M5 p (.lst acc) ∧ W (i + 1) acc M5)) ∧
      (∀ acc M', W j.its.length acc M' → R (.lst acc) M') := by
  intro p hpn
  have tk : ∀ {i : Nat} {d : D}, j.its[i]? = some d → j.its.take (i + 1) = j.its.take i ++ [d] := fun h => by rw [List.take_succ, h]; rfl
  refine ⟨fun i acc M' => M' = M ∧ acc = (((j.its.take i).filter c).map f), ⟨rfl, rfl⟩, ?_, ?_, ?_⟩
  · rintro i acc M' ⟨rfl, rfl⟩
    refine ⟨hpn, ?_, hst p _ hpn⟩
    rw [List.length_map]
    refine Nat.lt_of_le_of_lt (List.length_filter_le _ _) ?_
    rw [List.length_take]
    exact Nat.lt_of_le_of_lt (Nat.min_le_right _ _) hl
  · rintro i acc M' d ⟨rfl, rfl⟩ hd
    refine step i d p _ _ _ hd hpn (fun h => ⟨hp d (List.mem_of_getElem? hd) h, _, rfl, rfl, ?_⟩) (fun h => ⟨_, rfl, rfl, ?_⟩)
    · rw [tk hd, List.filter_append, List.map_append]; simp [List.filter_cons, h]
    · rw [tk hd, List.filter_append, List.map_append]; simp [List.filter_cons, h]
  · rintro acc M' ⟨rfl, rfl⟩
    rw [List.take_length]; exact hR
section
variable {g : DG} {t : DT} {e ve : DE} {va : DA} {vs : List Nat} {γ : Gm} {M M1 : Mem} {R : DR} (c : D → Bool) (f : D → D)
theorem mf_list (ds : List D) (hve : ∀ F : DR, F (.lst ds) M1 → ve γ M F) (hl : ds.length < sizeLine) (hp : ∀ d ∈ ds, c d = true → pureD (f d) = true)
    (step : ∀ (i : Nat) (d : D) (p : Addr) (acc : List D) (P : DR) (Q : Mem → Prop), ds[i]? = some d → M1 p = none → (c d = true → P (f d) (mset M1 p (.lst acc))) → (c d = false → Q (mset M1 p (.lst acc))) →
      g d (gwipe γ vs) (mset M1 p (.lst acc)) fun γ2 M2 => t γ2 M2 fun b M3 => (b = true → e γ2 M3 P) ∧ (b = false → Q M3))
    (hR : R (.lst ((ds.filter c).map f)) M1) : vLc (wList ve) g t e vs γ M R :=
  hve _ (lc_mf (j := liD (.lst ds) ds) c f hl (fun _ _ _ => rfl) hp step hR)
theorem mf_own (a : Addr) (ds : List D) (hve : ∀ F : DR, F (.own a) M1 → ve γ M F) (ha : M1 a = some (.lst ds)) (hl : ds.length < sizeLine) (hp : ∀ d ∈ ds, c d = true → pureD (f d) = true)
    (step : ∀ (i : Nat) (d : D) (p : Addr) (acc : List D) (P : DR) (Q : Mem → Prop), ds[i]? = some d → M1 p = none → (c d = true → P (f d) (mset M1 p (.lst acc))) → (c d = false → Q (mset M1 p (.lst acc))) →
      g d (gwipe γ vs) (mset M1 p (.lst acc)) fun γ2 M2 => t γ2 M2 fun b M3 => (b = true → e γ2 M3 P) ∧ (b = false → Q M3))
    (hR : R (.lst ((ds.filter c).map f)) M1) : vLc (wList ve) g t e vs γ M R := by
  refine hve _ ?_
  show (match false, seqI M1 (.own a) with | false, some ds => _ | _, _ => False)
  rw [seqI_own ha]
  refine lc_mf (j := liD (.own a) ds) c f hl (fun p acc hp => ?_) hp step hR
  have ne : a ≠ p := fun z => by rw [z, hp] at ha; cases ha
  exact seqI_own (by rw [mset_ne ne]; exact ha)
theorem mf_tup (ds : List D) (hve : ∀ F : DR, F (.tup ds) M1 → ve γ M F) (hl : ds.length < sizeLine) (hp : ∀ d ∈ ds, c d = true → pureD (f d) = true)
    (step : ∀ (i : Nat) (d : D) (p : Addr) (acc : List D) (P : DR) (Q : Mem → Prop), ds[i]? = some d → M1 p = none → (c d = true → P (f d) (mset M1 p (.lst acc))) → (c d = false → Q (mset M1 p (.lst acc))) →
      g d (gwipe γ vs) (mset M1 p (.lst acc)) fun γ2 M2 => t γ2 M2 fun b M3 => (b = true → e γ2 M3 P) ∧ (b = false → Q M3))
    (hR : R (.lst ((ds.filter c).map f)) M1) : vLc (wTup ve) g t e vs γ M R :=
  hve _ (lc_mf (j := ⟨ds, fun _ => True⟩) c f hl (fun _ _ _ => trivial) hp step hR)
end
theorem eqG_none {f : Bool → Bool} {M : Mem} {R : DR} {a : Addr} {ds : List D} (ha : M a = some (.lst ds)) (h : cmpD 64 (.lst ds) = true) (h0 : ds = [] → R (.bl (f true)) M) (h1 : ds ≠ [] → R (.bl (f false)) M) : oEqG f (.own a) (.lst []) M R := by
  obtain ⟨p, e, s, r⟩ := shaped_of h
  have t : toPt M (.own a) = some p := by unfold toPt; simp only [ha]; exact e
  refine eqG_of (p := p) (q := .list []) t rfl s (by decide) ?_
  cases ds with
  | nil => cases e; exact h0 rfl
  | cons d ds =>
    unfold toP at e
    cases q : toPL (d :: ds) with
    | none => rw [q] at e; cases e
    | some ps =>
      rw [q] at e
      cases e
      unfold toPL at q
      split at q
      · cases q; exact h1 (by simp)
      · cases q
end Dl
namespace Dl
open PySem L2
section
variable {X : Cx} {C : Addr} {e : Expr} {pos : Pos}
def dLst (n : Nat) (gs : DGs) : DG := fun d γ M R => match d with
  | .lst ds => ds.length = n ∧ gs ds γ M R
  | _ => False
theorem e_dLst (n : Nat) (gs : DGs) (d : D) (γ : Gm) (M : Mem) (R : Gm → Mem → Prop) : dLst n gs d γ M R = (match d with
  | .lst ds => ds.length = n ∧ gs ds γ M R
  | _ => False) := propext Iff.rfl
theorem qg_lst {es : List Expr} {k : Nat} {gs : DGs} {n : Nat} (h : QGs X C es gs) (hc : X.calm = true := by rfl) (hn : (assignEach es X.env).length = n := by rfl) (hst : (assignEach es X.env).findIdx? (·.1) = none := by rfl) : QG X C (.Tuple es k pos) (dLst n gs) := by
  obtain ⟨t, p, s⟩ := h.ex
  refine ⟨_, pg_unl hc p hn hst, fun d γ M R σ H x Q r i1 h k => ?_⟩
  cases d with
  | lst ds =>
    have i2 := i1
    unfold Is at i2
    obtain ⟨a, xs, e1, m, ha, hl⟩ := i2
    exact ⟨a, xs, e1, SqL.of ha, by rw [← hl.len]; exact h.1, s ds γ M R σ H xs Q r hl h.2 k⟩
  | _ => exact False.elim h
theorem IsL.reverse {G : Gx} {M : Mem} {H : Hp} : ∀ {ds : List D} {vs : List V}, IsL G M H ds vs → IsL G M H ds.reverse vs.reverse
  | [], [], h => h
  | [], _ :: _, h => by unfold IsL at h; exact h.elim
  | _ :: _, [], h => by unfold IsL at h; exact h.elim
  | d :: ds, v :: vs, h => by
    unfold IsL at h
    rw [List.reverse_cons, List.reverse_cons]
    exact (IsL.reverse h.2).append (IsL.cons h.1 IsL.nil)
def vRev (o : DE) : DE := fun γ M R => o γ M fun od M1 => match od with
  | .lst ds => R (.lst ds.reverse) M1
  | .own a => (match M1 a with
    | some (.lst ds) => R (.lst ds.reverse) M1
    | _ => False)
  | _ => False
theorem e_vRev (o : DE) (γ : Gm) (M : Mem) (R : DR) : vRev o γ M R = (o γ M fun od M1 => match od with
  | .lst ds => R (.lst ds.reverse) M1
  | .own a => (match M1 a with
    | some (.lst ds) => R (.lst ds.reverse) M1
    | _ => False)
  | _ => False) := propext Iff.rfl
theorem q_rev {vo : DE} {k : Nat} {p1 p2 p3 : Pos} (ho : QE X C e vo) : QE X C (.Subscript e (.Slice none none (some (.UnaryOp .USub (.Constant (.int 1) k p1) p2)) p3) pos) (vRev vo) := by
  obtain ⟨to, po, so⟩ := ho.ex
  refine ⟨_, pe_revL po, fun γ M R σ H Q r h k => so γ M _ σ H _ r h fun od M1 x H1 o1 i1 e1 h1 => ?_⟩
  cases od with
  | lst ds =>
    have j1 := i1
    unfold Is at j1
    obtain ⟨a, xs, ex, m, ha, hl⟩ := j1
    exact ⟨a, xs, ex, SqL.of ha, fun p hp => k _ M1 _ _ (o1.new hp) (new_lst o1 hp hl.reverse) (e1.trans (Ext.new hp)) h1⟩
  | own a =>
    have j1 := i1
    unfold Is at j1
    have hq : lstAt M1 a = true := by
      simp only at h1
      split at h1
      · rename_i q; exact lstAt_of q
      · exact h1.elim
    obtain ⟨ds, xs, q, pu, ha, hl⟩ := own_list o1 hq
    rw [j1.1]
    simp only [q] at h1
    exact ⟨a, xs, rfl, SqL.of ha, fun p hp => k _ M1 _ _ (o1.new hp) (new_lst o1 hp hl.reverse) (e1.trans (Ext.new hp)) h1⟩
  | _ => exact False.elim h1
end
end Dl
namespace Dl
open PySem L2
end Dl
namespace L2
open PySem PySem.Spec PyProof.Rows
section
variable {P : Program} {w : World} {A : Around} {E : Value → Shared → Prop} {s : Shared}
end
section
variable {X : Cx}
end
end L2
namespace Dl
open PySem L2
section
variable {X : Cx} {C : Addr} {e : Expr} {pos p1 p2 pos2 : Pos}
end
end Dl
namespace PySem
section
variable {prog : Program} {w : World} {A : Around} {E : Value → Shared → Prop} {s : Shared}
end
end PySem
namespace L2
open PySem PySem.Spec PyProof.Rows
section
variable {X : Cx} {e : Expr}
end
end L2
namespace Dl
open PySem L2
section
variable {X : Cx} {C : Addr} {e e2 : Expr} {ve vb : DE} {pos : Pos}
end
end Dl
namespace Dl
open PySem L2
def oAddO : DO := fun d e M R => match lstI M d, lstI M e with
  | some xs, some ys => xs.length + ys.length ≤ sizeLine ∧ pureL (xs ++ ys) = true ∧ ∀ p, M p = none → R (.own p) (mset M p (.lst (xs ++ ys)))
  | _, _ => False
theorem f_addO {d e : D} {M : Mem} {R : DR} {xs ys : List D} (h1 : lstI M d = some xs) (h2 : lstI M e = some ys) : oAddO d e M R = (xs.length + ys.length ≤ sizeLine ∧ pureL (xs ++ ys) = true ∧ ∀ p, M p = none → R (.own p) (mset M p (.lst (xs ++ ys)))) := by
  unfold oAddO; rw [h1, h2]
theorem f_addOLL {M : Mem} {R : DR} {xs ys : List D} : oAddO (.lst xs) (.lst ys) M R = (xs.length + ys.length ≤ sizeLine ∧ pureL (xs ++ ys) = true ∧ ∀ p, M p = none → R (.own p) (mset M p (.lst (xs ++ ys)))) := f_addO rfl rfl
theorem sndO_addO {G : Gx} : SndO G (rAddAll G.K) oAddO := fun d e M R H x y Q o i1 i2 h k => by
  unfold oAddO at h
  cases e1 : lstI M d with
  | none => rw [e1] at h; exact h.elim
  | some xs =>
    cases e2 : lstI M e with
    | none => rw [e1, e2] at h; exact h.elim
    | some ys =>
      rw [e1, e2] at h
      obtain ⟨hz, pu, hr⟩ := h
      obtain ⟨p, us, rfl, l1, h1⟩ := lst_at o i1 e1
      obtain ⟨q, ws, rfl, l2, h2⟩ := lst_at o i2 e2
      refine .inr (.inr ⟨p, q, us, ws, rfl, rfl, h1, h2, by rw [← l1.len, ← l2.len]; exact hz, fun n hn => ?_⟩)
      exact k _ (mset M n (.lst (xs ++ ys))) _ _ (o.newOwn hn pu (l1.append l2)) is_own (Ext.newOwn hn) (hr n (o.fresh hn))
section
variable {X : Cx} {C : Addr} {a b : Expr} {va vb : DE} {pos : Pos}
theorem q_addO (ha : QE X C a va) (hb : QE X C b vb) : QE X C (.BinOp a .Add b pos) (vOp oAddO va vb) := qe_op op_addAll sndO_addO ha hb
end
end Dl
namespace Dl
open PySem L2
section
variable {X : Cx} {C : Addr} {e : Expr} {pos : Pos} {vs : List Nat}
end
end Dl
namespace Dl
open PySem L2
def oRep : DO := fun d e M R => match d, e with
  | .lst xs, .int k => 0 ≤ k ∧ k < 2 ^ 63 ∧ xs.length * k.toNat ≤ sizeLine ∧ R (.lst (List.replicate k.toNat xs).flatten) M
  | _, _ => False
theorem f_rep {M : Mem} {R : DR} {xs : List D} {k : Int} : oRep (.lst xs) (.int k) M R = (0 ≤ k ∧ k < 2 ^ 63 ∧ xs.length * k.toNat ≤ sizeLine ∧ R (.lst (List.replicate k.toNat xs).flatten) M) := rfl
theorem IsL.rep {G : Gx} {M : Mem} {H : Hp} {ds : List D} {xs : List V} (h : IsL G M H ds xs) : ∀ n, IsL G M H (List.replicate n ds).flatten (List.replicate n xs).flatten
  | 0 => IsL.nil
  | n + 1 => by
    rw [List.replicate_succ, List.replicate_succ, List.flatten_cons, List.flatten_cons]
    exact h.append (IsL.rep h n)
theorem sndO_rep {G : Gx} : SndO G rRep oRep := fun d e M R H x y Q o i1 i2 h k => by
  unfold oRep at h
  split at h
  · rename_i xs j
    obtain ⟨h0, h1, hz, hr⟩ := h
    unfold Is at i1 i2
    obtain ⟨a, us, rfl, ha, hH, hl⟩ := i1
    obtain rfl := i2
    refine ⟨a, j, us, rfl, rfl, hH, by omega, by omega, by rw [← hl.len]; exact hz, fun p hp => ?_⟩
    exact k _ M _ _ (o.new hp) (new_lst o hp (hl.rep _)) (Ext.new hp) hr
  · exact h.elim
def rReprS : List V → Hp → VK → Prop := fun xs H Q => (∃ b : Bool, xs = [.bl b] ∧ Q (.str (if b then "True" else "False")) H) ∨ (xs = [.non] ∧ Q (.str "None") H) ∨ ∃ i : Int, xs = [.int i] ∧ i.natAbs.log2 < 1920 ∧ Q (.str (toString i)) H
section
variable {X : Cx} {C : Addr} {a b : Expr} {va vb : DE} {pos : Pos}
theorem q_rep (ha : QE X C a va) (hb : QE X C b vb) : QE X C (.BinOp a .Mult b pos) (vOp oRep va vb) := qe_op op_rep sndO_rep ha hb
theorem cr_reprS : CallR X (.builtin "repr") rReprS := by
  intro pins s σ H xs us Q I r h
  rcases h with ⟨b, rfl, q⟩ | ⟨rfl, q⟩ | ⟨i, rfl, hz, q⟩
  · obtain ⟨u, rfl, t⟩ := vals1 r
    obtain rfl : u = Value.bool b := t
    exact PySem.P.repr_of_bool ⟨.str _, H, I.tok _, ⟨_, rfl⟩, q⟩
  · obtain ⟨u, rfl, t⟩ := vals1 r
    obtain rfl : u = Value.none := t
    exact PySem.P.repr_of_none ⟨.str _, H, I.tok _, ⟨_, rfl⟩, q⟩
  · obtain ⟨u, rfl, t, rfl⟩ := vals1 r
    exact PySem.P.repr_of_int hz ⟨.str _, H, I.tok _, ⟨_, rfl⟩, q⟩
def oRepr : DC := fun ds M R => match ds with
  | [.bl b] => R (.str (if b then "True" else "False")) M
  | [.non] => R (.str "None") M
  | [.int i] => i.natAbs.log2 < 1920 ∧ R (.str (toString i)) M
  | _ => False
theorem f_reprB {b : Bool} {M : Mem} {R : DR} : oRepr [.bl b] M R = R (.str (if b then "True" else "False")) M := rfl
theorem f_reprN {M : Mem} {R : DR} : oRepr [.non] M R = R (.str "None") M := rfl
theorem f_reprI {i : Int} {M : Mem} {R : DR} : oRepr [.int i] M R = (i.natAbs.log2 < 1920 ∧ R (.str (toString i)) M) := rfl
theorem bb_repr : bootBuiltins "repr" = some (.builtin "repr") := by decide +kernel
theorem b_repr : BQ X C (.builtin "repr") oRepr := ⟨_, cr_reprS, fun ds M R H xs Q o i1 h k => by
  unfold oRepr at h
  split at h
  · rename_i b
    obtain ⟨x, rfl, ix⟩ := isL1 i1
    unfold Is at ix
    subst ix
    exact .inl ⟨b, rfl, k _ M _ H o is_str Ext.refl h⟩
  · obtain ⟨x, rfl, ix⟩ := isL1 i1
    unfold Is at ix
    subst ix
    exact .inr (.inl ⟨rfl, k _ M _ H o is_str Ext.refl h⟩)
  · rename_i i
    obtain ⟨x, rfl, ix⟩ := isL1 i1
    unfold Is at ix
    subst ix
    exact .inr (.inr ⟨i, rfl, h.1, k _ M _ H o is_str Ext.refl h.2⟩)
  · exact h.elim⟩
end
section
variable {X : Cx} {C : Addr} {e : Expr} {pos p1 p2 pos2 : Pos}
end
end Dl
namespace Dl
open PySem L2
section
variable {X : Cx} {C : Addr}
end
end Dl
namespace Dl
open PySem L2
section
variable {α : Type} {a b c d e f g : α}
theorem pk11 : pickL [0, 1] [a] [b] = [a, b] := rfl
theorem pk21 : pickL [0, 1, 2] [a, b] [c] = [a, b, c] := rfl
theorem pk31 : pickL [0, 1, 2, 3] [a, b, c] [d] = [a, b, c, d] := rfl
theorem pk41 : pickL [0, 1, 2, 3, 4] [a, b, c, d] [e] = [a, b, c, d, e] := rfl
theorem pk51 : pickL [0, 1, 2, 3, 4, 5] [a, b, c, d, e] [f] = [a, b, c, d, e, f] := rfl
end
theorem cp10 : CP 10 20 := ⟨by decide, by decide +kernel⟩
end Dl
namespace L2
open PySem PySem.Spec PyProof.Rows
section
variable {X : Cx} {a b c d : Expr} {ta tb tc td : TE} {pos : Pos}
end
end L2
namespace Dl
open PySem L2
section
variable {X : Cx} {C : Addr} {a b c d : Expr} {va vb vc vd : DE} {pos : Pos}
end
end Dl
namespace Dl
open PySem L2
theorem eqG_lstN {f : Bool → Bool} {M : Mem} {R : DR} {ds : List D} (h : cmpD 64 (.lst ds) = true) (h0 : ds = [] → R (.bl (f true)) M) (h1 : ds ≠ [] → R (.bl (f false)) M) : oEqG f (.lst ds) (.lst []) M R := by
  obtain ⟨p, e, s, r⟩ := shaped_of h
  refine eqG_of (p := p) (q := .list []) (toPt_pure e) rfl s (by decide) ?_
  cases ds with
  | nil => cases e; exact h0 rfl
  | cons d ds =>
    unfold toP at e
    cases q : toPL (d :: ds) with
    | none => rw [q] at e; cases e
    | some ps =>
      rw [q] at e
      cases e
      unfold toPL at q
      split at q
      · cases q; exact h1 (by simp)
      · cases q
end Dl
namespace Dl
open PySem L2
end Dl
namespace Dl
open PySem L2
section
variable {X : Cx} {C : Addr}
def oInDG (f : Bool → Bool) : DO := fun d t M R => match toP d, toP t with
  | some p, some (.list ps) => PyData.canLayAll0 ps = true ∧ p.canLay0 = true ∧ p.depth = 0 ∧ R (.bl (f (ps.any fun y => PyData.eqv y p))) M
  | _, _ => False
end
end Dl
namespace Dl
open PySem L2
section
open PySem PySem.Calls PyProof.Rows PySem.W
variable {prog : Program} {w : World} {A : Around} {E : Value → Shared → Prop} {s : Shared} {K : Frag} {x y C f : Addr} {ox oy : Obj} {od od' : Option Obj}
end
structure NeF (K : PySem.W.Frag) (C : Addr) : Prop where
  ne : PySem.W.findIn K (.ref C) "__ne__" = some (some (.builtin "object.__ne__"))
  po : PySem.W.plainOver K C = true
section
variable {X : Cx} {C : Addr} {j k : Nat} {S : DSp}
end
end Dl
namespace Dl
open PySem L2
def oLtT : DO := fun d e M R => match d, e with
  | .tup xs, .tup ys => (match intsD xs, intsD ys with
    | some ns, some ms => R (.bl (HT.lexLt ns ms)) M
    | _, _ => False)
  | _, _ => False
section
variable {X : Cx} {C : Addr}
end
theorem f_ltT2 {a b c d : Int} {M : Mem} {R : DR} : oLtT (.tup [.int a, .int b]) (.tup [.int c, .int d]) M R = R (.bl (decide (a < c) || (decide (a = c) && decide (b < d)))) M := by
  have e : oLtT (.tup [.int a, .int b]) (.tup [.int c, .int d]) M R = R (.bl (HT.lexLt [a, b] [c, d])) M := rfl
  rw [e]
  congr 2
  show (if a = c then (if b = d then false else decide (b < d)) else decide (a < c)) = _
  by_cases h : a = c
  · subst h
    by_cases h2 : b = d
    · subst h2; simp
    · simp [h2]
  · simp [h]
end Dl
namespace Dl
open PySem L2
def vAugL (i : Nat) (a : DE) : DS := fun Ed γ M => match gt γ i with
  | some (.own p) => a γ M fun d M1 => (match lstI M1 d, M1 p with
    | some ys, some (.lst xs) => pureL ys = true ∧ xs.length + ys.length ≤ sizeLine ∧ Ed.nx (gset γ i (some (.own p))) (mset M1 p (.lst (xs ++ ys)))
    | _, _ => False)
  | _ => False
theorem e_vAugL (i : Nat) (a : DE) (Ed : DEnds) (γ : Gm) (M : Mem) : vAugL i a Ed γ M = (match gt γ i with
  | some (.own p) => a γ M fun d M1 => (match lstI M1 d, M1 p with
    | some ys, some (.lst xs) => pureL ys = true ∧ xs.length + ys.length ≤ sizeLine ∧ Ed.nx (gset γ i (some (.own p))) (mset M1 p (.lst (xs ++ ys)))
    | _, _ => False)
  | _ => False) := propext Iff.rfl
section
variable {X : Cx} {C : Addr} {e : Expr} {ve : DE} {pos : Pos}
theorem qs_augL {i : Nat} {x : Str} {pos' : Pos} (hN : X.N.Nodup) (he : QE X C e ve) (hi : X.N[i]? = some x := by rfl) (hx : Loc X.env.scope x := by first | exact Or.inl rfl | exact Or.inr rfl) (hf : X.fn x = true ∨ X.env.scope.names.lookup x = some .local := by first | exact .inl rfl | exact .inr rfl | assumption) :
    QS X C (.AugAssign (.Name x pos') .Add e pos) (vAugL i ve) := by
  obtain ⟨t, p, s⟩ := he.ex
  refine ⟨_, ps_aug hN hi hx p (fun pins s σ H x y v u Q I r1 r2 h => iop_ext pins s σ H x y v u Q I r1 r2 h) hf, fun Ed γ M σ H E r l h => ?_⟩
  unfold vAugL at h
  split at h
  · rename_i q g
    obtain ⟨v, h1, h2⟩ := r.sl.get g
    refine ⟨v, h1, s γ M _ σ H _ r h fun d M1 y H1 o1 i1 e1 h3 => ?_⟩
    split at h3
    · rename_i ys xs ey ex
      obtain ⟨pu, hz, hn⟩ := h3
      have j := Is.ext e1 _ _ h2
      unfold Is at j
      obtain ⟨pu2, us, ha, hl⟩ := o1 q _ ex
      obtain ⟨b, ws, rfl, hl2, hb⟩ := lst_at o1 i1 ey
      refine ⟨q, b, us, ws, j.1, rfl, ha, hb, by rw [← hl.len, ← hl2.len]; exact hz, ?_⟩
      have x2 : Ext M1 (mset M1 q (.lst (xs ++ ys))) H1 (upd H1 q (.lst (us ++ ws))) := Ext.put j.2
      refine l.nx _ _ _ _ ⟨((r.sl.ext (e1.trans x2)).set ?_), o1.put j.2 (pureL_append pu2 pu) (hl.append hl2)⟩ (e1.trans x2) hn
      unfold Is
      exact ⟨rfl, by rw [mset_same]; rfl⟩
    · exact h3.elim
  · exact h.elim
end
end Dl
namespace Dl
open PySem L2
def oEqE : DO := fun d e M R => match d, e with
  | .lst (_ :: _), .lst [] => R (.bl false) M
  | _, _ => False
theorem f_eqE {d : D} {ds : List D} {M : Mem} {R : DR} : oEqE (.lst (d :: ds)) (.lst []) M R = R (.bl false) M := rfl
section
variable {X : Cx} {C : Addr}
end
end Dl
namespace Dl
open PySem L2
abbrev DEX := Gm → Mem → DR → DX → Prop
abbrev DTX := Gm → Mem → (Bool → Mem → Prop) → DX → Prop
abbrev DAX := Gm → Mem → (List D → Mem → Prop) → DX → Prop
abbrev DSx := List D → Mem → DX → Prop
def XOk (X : Cx) (C : Addr) (M : Mem) (σ : St) (H : Hp) (Xd : DX) : Prop := ∀ M' H' xd cls d, Own ⟨X.K, C⟩ M' H' → XIs ⟨X.K, C⟩ M' H' xd cls d → Ext M M' H H' → Xd xd M' → wX X cls d σ H'
theorem XOk.ext {X : Cx} {C : Addr} {M M1 : Mem} {σ : St} {H H1 : Hp} {Xd : DX} (k : XOk X C M σ H Xd) (e : Ext M M1 H H1) : XOk X C M1 σ H1 Xd := fun M' H' xd cls d o i x h => k M' H' xd cls d o i (e.trans x) h
def SndX (X : Cx) (C : Addr) (t : TE) (v : DEX) : Prop := ∀ (γ : Gm) (M : Mem) (R : DR) (Xd : DX) (σ : St) (H : Hp) (Q : VK), Rel ⟨X.K, C⟩ M γ σ H → v γ M R Xd →
  (∀ d M' x H', Own ⟨X.K, C⟩ M' H' → Is ⟨X.K, C⟩ M' H' d x → Ext M M' H H' → R d M' → Q x H') → XOk X C M σ H Xd → t σ H Q
def SndTX (X : Cx) (C : Addr) (t : TT) (v : DTX) : Prop := ∀ (γ : Gm) (M : Mem) (R : Bool → Mem → Prop) (Xd : DX) (σ : St) (H : Hp) (Q : Bool → Hp → Prop), Rel ⟨X.K, C⟩ M γ σ H → v γ M R Xd →
  (∀ b M' H', Own ⟨X.K, C⟩ M' H' → Ext M M' H H' → R b M' → Q b H') → XOk X C M σ H Xd → t σ H Q
def SndAX (X : Cx) (C : Addr) (t : TA) (v : DAX) : Prop := ∀ (γ : Gm) (M : Mem) (R : List D → Mem → Prop) (Xd : DX) (σ : St) (H : Hp) (Q : List V → Hp → Prop), Rel ⟨X.K, C⟩ M γ σ H → v γ M R Xd →
  (∀ ds M' xs H', Own ⟨X.K, C⟩ M' H' → IsL ⟨X.K, C⟩ M' H' ds xs → Ext M M' H H' → R ds M' → Q xs H') → XOk X C M σ H Xd → t σ H Q
structure QEX (X : Cx) (C : Addr) (e : Expr) (v : DEX) : Prop where
  ex : ∃ t, PE X e t ∧ SndX X C t v
structure QTX (X : Cx) (C : Addr) (e : Expr) (v : DTX) : Prop where
  ex : ∃ t, PT X e t ∧ SndTX X C t v
structure QAX (X : Cx) (C : Addr) (es : List Expr) (v : DAX) : Prop where
  ex : ∃ t, PA X es t ∧ SndAX X C t v
structure QKX (X : Cx) (C : Addr) (kws : List Keyword) (v : DAX) : Prop where
  ex : ∃ t, PK X kws t ∧ SndAX X C t v
def vL (v : DE) : DEX := fun γ M R _ => v γ M R
def tL (v : DT) : DTX := fun γ M R _ => v γ M R
def aL (v : DA) : DAX := fun γ M R _ => v γ M R
section
variable {X : Cx} {C : Addr} {e : Expr} {es : List Expr} {pos : Pos}
theorem QE.x {v : DE} (h : QE X C e v) : QEX X C e (vL v) := let ⟨t, p, s⟩ := h.ex; ⟨t, p, fun γ M R _ σ H Q r hv k _ => s γ M R σ H Q r hv k⟩
theorem QT.x {v : DT} (h : QT X C e v) : QTX X C e (tL v) := let ⟨t, p, s⟩ := h.ex; ⟨t, p, fun γ M R _ σ H Q r hv k _ => s γ M R σ H Q r hv k⟩
theorem QA.x {v : DA} (h : QA X C es v) : QAX X C es (aL v) := let ⟨t, p, s⟩ := h.ex; ⟨t, p, fun γ M R _ σ H Q r hv k _ => s γ M R σ H Q r hv k⟩
theorem QK.x {kws : List Keyword} {v : DA} (h : QK X C kws v) : QKX X C kws (aL v) := let ⟨t, p, s⟩ := h.ex; ⟨t, p, fun γ M R _ σ H Q r hv k _ => s γ M R σ H Q r hv k⟩
end
def spX (G : Gx) (n : Nat) (S : DSx) : Sp := fun vs H _ E => ∃ (ds : List D) (M : Mem) (Xd : DX), ds.length = n ∧ IsL G M H ds vs ∧ Own G M H ∧ S ds M Xd ∧
  ∀ xd M' cls d H', Own G M' H' → XIs G M' H' xd cls d → Ext M M' H H' → Xd xd M' → E cls d H'
def spU (G : Gx) (n : Nat) (S : DSp) (Sx : DSx) : Sp := fun vs H Q E => spD G n S vs H Q E ∨ spX G n Sx vs H Q E
abbrev CXp (P : Program) (w : World) : CXT := L2.CX P w
theorem fn_cx {P : Program} {w : World} {K : PySem.W.Frag} {mg : Str → Option Value} {base : Heap} {k : Nat} {f : Addr} {fd : FuncData} {ps : List Str} {sp : Sp} {CX : CXT} (F : FnOk P w K mg base CX0 k f fd ps sp) : FnOk P w K mg base CX k f fd ps sp :=
  ⟨F.len, fun A outer s H args us vs Q E hr he hb hv hs => codeAny_mono (F.run A outer s H args us vs Q E hr he hb hv hs) fun r s' h => by
    cases r with
    | ok fl => cases fl <;> exact h
    | error e => exact False.elim h⟩
theorem fn_both {P : Program} {w : World} {K : PySem.W.Frag} {mg : Str → Option Value} {base : Heap} {k j : Nat} {f : Addr} {fd : FuncData} {ps : List Str} {G : Gx} {n : Nat} {S : DSp} {Sx : DSx} (F : FnOk P w K mg base CX0 k f fd ps (spD G n S)) (Fx : FnOk P w K mg base (CXp P w) j f fd ps (spX G n Sx)) :
    FnOk P w K mg base (CXp P w) (max k j) f fd ps (spU G n S Sx) :=
  ⟨fun vs H Q E h => h.elim (F.len vs H Q E) (Fx.len vs H Q E), fun A outer s H args us vs Q E hr he hb hv hs => by
    rcases hs with h | h
    · exact (fn_cx F).run A outer s H args us vs Q E (hr.mono (Nat.le_max_left _ _)) he hb hv h
    · exact Fx.run A outer s H args us vs Q E (hr.mono (Nat.le_max_right _ _)) he hb hv h⟩
structure CallX (P : Program) (w : World) (K : PySem.W.Frag) (mg : Str → Option Value) (base : Heap) (C : Addr) (k : Nat) (x : Str) (n : Nat) (S : DSp) (Sx : DSx) (dd : List D) : Prop where
  ex : ∃ (f : Addr) (fd : FuncData) (ps : List Str) (ds : List Value) (dv : List V), mg x = some (.ref f) ∧ PySem.W.keepIn K (.ref f) = true ∧ FnOk P w K mg base (CXp P w) k f fd ps (spU ⟨K, C⟩ n S Sx) ∧ Binds K fd ps ds ∧ Vals dv ds ∧ constL dd = some dv
structure KCallX (P : Program) (w : World) (K : PySem.W.Frag) (mg : Str → Option Value) (base : Heap) (C : Addr) (k : Nat) (x : Str) (n : Nat) (S : DSp) (Sx : DSx) (np : Nat) (ks : List Str) (pick : List D → List D → List D) : Prop where
  ex : ∃ (f : Addr) (fd : FuncData) (ps : List Str) (g : List Value → List Value → List Value) (gV : List V → List V → List V), mg x = some (.ref f) ∧ PySem.W.keepIn K (.ref f) = true ∧ FnOk P w K mg base (CXp P w) k f fd ps (spU ⟨K, C⟩ n S Sx) ∧ KBn K fd ps np ks g gV ∧
    ∀ (M : Mem) (H : Hp) (ds zs : List D) (vs us : List V), IsL ⟨K, C⟩ M H ds vs → IsL ⟨K, C⟩ M H zs us → IsL ⟨K, C⟩ M H (pick ds zs) (gV vs us)
section
variable {X : Cx} {C : Addr} {k j n : Nat} {S : DSp} {Sx : DSx} {dd : List D} {x : Str} {p pos : Pos} {e : Expr} {es : List Expr} {fd : FuncData} {ps : List Str} {f : Addr} {sp : Sp}
theorem run_fnW {CX : CXT} {pins : List (Addr × Obj)} {σ : St} {H : Hp} {s : Shared} {Q : VK} {E : XK} {args : Args} {ws : List Value} {vs : List V} (F : FnOk X.prog X.w X.K X.mg X.base CX k f fd ps sp) (hr : Room k X.A) (hb : BindsTo s fd args (ps.zip ws)) (r : Vals vs ws)
    (hx : ∀ u s', CX X.stack H s E u s' → X.xe u s') (I : Inv X pins σ H s) (h : sp vs H Q E) : wpAny (model X.prog X.w) X.A (call (.ref f) args.pos args.kw) (EP X pins σ Q) X.xe s := by
  refine wpAny_call (codeAny_mono (F.run X.A X.stack s H args ws vs Q E hr I.env0 hb r h) fun z s' hz => ?_)
  match z, hz with
  | .error u, hz => exact hx u s' hz
  | .ok (.ret u), hz => exact I.after hz
  | .ok .next, hz => exact hz.elim
  | .ok .brk, hz => exact hz.elim
  | .ok .cont, hz => exact hz.elim
def tCallW (X : Cx) (sp : Sp) (dvs : List V) (t : TA) : TE := fun σ H Q => t σ H fun vs H1 => ∃ E : XK, sp (vs ++ dvs) H1 Q E ∧ ∀ cls d H', E cls d H' → wX X cls d σ H'
def tCallWN (X : Cx) (np nk : Nat) (sp : Sp) (gV : List V → List V → List V) (t tk : TA) : TE := fun σ H Q => t σ H fun vs H1 => tk σ H1 fun zs H2 => vs.length = np ∧ zs.length = nk ∧ ∃ E : XK, sp (gV vs zs) H2 Q E ∧ ∀ cls d H', E cls d H' → wX X cls d σ H'
theorem cx_xe {pins : List (Addr × Obj)} {σ : St} {H : Hp} {s : Shared} {E : XK} (I : Inv X pins σ H s) (hW : ∀ cls d H', E cls d H' → wX X cls d σ H') : ∀ u s', CXp X.prog X.w X.stack H s E u s' → X.xe u s' :=
  fun u s' c => takes_wX u s' (XE.of_call I hW c)
theorem pe_callW {ds : List Value} {dvs : List V} {t : TA} (F : FnOk X.prog X.w X.K X.mg X.base (CXp X.prog X.w) k f fd ps sp) (hr : Room k X.A) (hg : Gl X x) (hm : X.mg x = some (.ref f)) (hk : PySem.W.keepIn X.K (.ref f) = true) (hb : Binds X.K fd ps ds) (hd : Vals dvs ds) (ha : PA X (e :: es) t)
    (hdb : (x == ("__debug__" : Str)) = false := by decide) (he : starEach (e :: es) X.env = (false, eval e X.env) :: starEach es X.env := by rfl) (hpl : (backTo pos (starEach es X.env)).any (·.1) = false := by rfl) : PE X (.Call (.Name x p) (e :: es) [] pos) (tCallW X sp dvs t) := by
  refine ⟨fun pins s σ H Q I h => wpAny_Call_Name_kw (ld_glob I hg hm ?_ hdb)⟩
  refine PySem.W.callWith_K (h₀ := X.base) I.ok.mod.kin hk (thn (ha.run pos pins s σ H _ I h) fun us s1 ⟨vs, H1, I1, r, E, hs, hW⟩ => ⟨I1.kIn, ?_⟩) he hpl
  have r2 := r.append hd
  have hl : (us ++ ds).length = ps.length := by rw [← r2.length]; exact F.len _ _ _ _ hs
  exact run_fnW (args := ⟨us, []⟩) F hr (hb s1 us I1.kIn hl) r2 (cx_xe I1 hW) I1 hs
theorem pe_callWN {np : Nat} {kws : List Keyword} {ks : List Str} {g : List Value → List Value → List Value} {gV : List V → List V → List V} {t tk : TA} (F : FnOk X.prog X.w X.K X.mg X.base (CXp X.prog X.w) k f fd ps sp) (hr : Room k X.A) (hg : Gl X x) (hm : X.mg x = some (.ref f)) (hk : PySem.W.keepIn X.K (.ref f) = true) (hb : KBn X.K fd ps np ks g gV)
    (ha : PA X (e :: es) t) (hkw : PK X kws tk) (hall : (backToKw pos (keywordEach kws X.env)).all (·.1.isSome) = true := by rfl) (hks : (backToKw pos (keywordEach kws X.env)).filterMap (·.1) = ks := by rfl)
    (hdb : (x == ("__debug__" : Str)) = false := by decide) (he : starEach (e :: es) X.env = (false, eval e X.env) :: starEach es X.env := by rfl)
    (hpl : ((backTo pos (starEach (e :: es) X.env)).any (·.1) || (backToKw pos (keywordEach kws X.env)).any (·.1.isNone)) = false := by rfl) : PE X (.Call (.Name x p) (e :: es) kws pos) (tCallWN X np ks.length sp gV t tk) := by
  refine ⟨fun pins s σ H Q I h => wpAny_Call_Name_kw (ld_glob I hg hm ?_ hdb)⟩
  refine PySem.W.callWith_KW (h₀ := X.base) I.ok.mod.kin hk hall (thn (ha.run pos pins s σ H _ I h) fun us s1 ⟨vs, H1, I1, r, q⟩ => thn (hkw.run pos pins s1 σ H1 _ I1 q) fun ws s2 ⟨zs, H2, I2, rz, l1, l2, E, hs, hW⟩ => ⟨I2.kIn, ?_⟩) hpl he
  rw [hks]
  have r2 := hb.rel r rz
  exact run_fnW (args := ⟨us, ks.zip ws⟩) F hr (hb.to s2 us ws I2.kIn (by rw [← r.length]; exact l1) (by rw [← rz.length]; exact l2)) r2 (cx_xe I2 hW) I2 hs
def vCallX (n : Nat) (S : DSp) (Sx : DSx) (dd : List D) (a : DAX) : DEX := fun γ M R Xd => a γ M (fun ds M1 => (ds ++ dd).length = n ∧ (S (ds ++ dd) M1 R noX ∨ Sx (ds ++ dd) M1 Xd)) Xd
def vCallKX (n np nk : Nat) (S : DSp) (Sx : DSx) (pick : List D → List D → List D) (a kw : DAX) : DEX := fun γ M R Xd => a γ M (fun ds M1 => kw γ M1 (fun zs M2 => ds.length = np ∧ zs.length = nk ∧ (pick ds zs).length = n ∧ (S (pick ds zs) M2 R noX ∨ Sx (pick ds zs) M2 Xd)) Xd) Xd
def wishD (X : Cx) (C : Addr) (M : Mem) (H : Hp) (Xd : DX) : XK := fun cls d H' => ∃ xd M', Own ⟨X.K, C⟩ M' H' ∧ XIs ⟨X.K, C⟩ M' H' xd cls d ∧ Ext M M' H H' ∧ Xd xd M'
theorem spU_of {M : Mem} {R : DR} {Xd : DX} {ds : List D} {xs : List V} {σ : St} {H : Hp} {Q : VK} (hl : ds.length = n) (o : Own ⟨X.K, C⟩ M H) (i : IsL ⟨X.K, C⟩ M H ds xs) (hs : S ds M R noX ∨ Sx ds M Xd)
    (k : ∀ d M' x H', Own ⟨X.K, C⟩ M' H' → Is ⟨X.K, C⟩ M' H' d x → Ext M M' H H' → R d M' → Q x H') (kx : XOk X C M σ H Xd) : ∃ E : XK, spU ⟨X.K, C⟩ n S Sx xs H Q E ∧ ∀ cls d H', E cls d H' → wX X cls d σ H' := by
  refine ⟨wishD X C M H Xd, ?_, fun cls d H' ⟨xd, M', o', i', e', h'⟩ => kx M' H' xd cls d o' i' e' h'⟩
  rcases hs with h | h
  · exact .inl ⟨ds, M, R, hl, i, o, h, k⟩
  · exact .inr ⟨ds, M, Xd, hl, i, o, h, fun xd M' cls d H' o' i' e' h' => ⟨xd, M', o', i', e', h'⟩⟩
theorem qxc {va : DAX} (h : CallX X.prog X.w X.K X.mg X.base C k x n S Sx dd) (hr : Room j X.A) (hkj : k ≤ j) (ha : QAX X C (e :: es) va) (hg : Gl X x := by rfl) (hdb : (x == ("__debug__" : Str)) = false := by decide) (he : starEach (e :: es) X.env = (false, eval e X.env) :: starEach es X.env := by rfl) (hpl : (backTo pos (starEach es X.env)).any (·.1) = false := by rfl) :
    QEX X C (.Call (.Name x p) (e :: es) [] pos) (vCallX n S Sx dd va) := by
  obtain ⟨f, fd, ps, ds, dv, h1, h2, h3, h4, h5, h6⟩ := h.ex
  obtain ⟨ta, pa, sa⟩ := ha.ex
  refine ⟨_, pe_callW h3 (hr.mono hkj) hg h1 h2 h4 h5 pa hdb he hpl, fun γ M R Xd σ H Q re hv kk kx => sa γ M _ Xd σ H _ re hv (fun as M1 xs H1 o1 i1 e1 hh => ?_) kx⟩
  exact spU_of hh.1 o1 (i1.append (constL_ok h6)) hh.2 (fun d M2 y H2 o2 i2 e2 hr2 => kk d M2 y H2 o2 i2 (e1.trans e2) hr2) (kx.ext e1)
theorem qxck {np : Nat} {kws : List Keyword} {ks : List Str} {pick : List D → List D → List D} {va vk : DAX} (h : KCallX X.prog X.w X.K X.mg X.base C k x n S Sx np ks pick) (hr : Room j X.A) (hkj : k ≤ j) (ha : QAX X C (e :: es) va) (hkw : QKX X C kws vk) (hg : Gl X x := by rfl) (hall : (backToKw pos (keywordEach kws X.env)).all (·.1.isSome) = true := by rfl) (hks : (backToKw pos (keywordEach kws X.env)).filterMap (·.1) = ks := by rfl)
    (hdb : (x == ("__debug__" : Str)) = false := by decide) (he : starEach (e :: es) X.env = (false, eval e X.env) :: starEach es X.env := by rfl)
    (hpl : ((backTo pos (starEach (e :: es) X.env)).any (·.1) || (backToKw pos (keywordEach kws X.env)).any (·.1.isNone)) = false := by rfl) :
    QEX X C (.Call (.Name x p) (e :: es) kws pos) (vCallKX n np ks.length S Sx pick va vk) := by
  obtain ⟨f, fd, ps, g, gV, h1, h2, h3, h4, h5⟩ := h.ex
  obtain ⟨ta, pa, sa⟩ := ha.ex
  obtain ⟨tk, pk, sk⟩ := hkw.ex
  refine ⟨_, pe_callWN h3 (hr.mono hkj) hg h1 h2 h4 pa pk hall hks hdb he hpl, fun γ M R Xd σ H Q re hv kk kx => sa γ M _ Xd σ H _ re hv (fun as M1 xs H1 o1 i1 e1 hh => sk γ M1 _ Xd σ H1 _ (re.mk' e1 o1) hh (fun zs M2 us H2 o2 i2 e2 h2 => ?_) (kx.ext e1)) kx⟩
  obtain ⟨l1, l2, l3, hs⟩ := h2
  have i1' := IsL.ext e2 as xs i1
  refine ⟨by rw [← i1.len]; exact l1, by rw [← i2.len]; exact l2, ?_⟩
  exact spU_of l3 o2 (h5 M2 H2 as zs xs us i1' i2) hs (fun d M3 y H3 o3 i3 e3 h3 => kk d M3 y H3 o3 i3 ((e1.trans e2).trans e3) h3) (kx.ext (e1.trans e2))
end
section
variable {X : Cx} {C : Addr} {e : Expr} {pos : Pos} {ve : DEX}
def vDropX (a : DEX) : DS := fun Ed γ M => a γ M (fun _ M1 => Ed.nx γ M1) (Ed.xx γ)
def vAsgX (a : DEX) (g : DG) : DS := fun Ed γ M => a γ M (fun d M1 => g d γ M1 Ed.nx) (Ed.xx γ)
def vIfX (c : DTX) (a b : DS) : DS := fun Ed γ M => c γ M (fun k M1 => (k = true → a Ed γ M1) ∧ (k = false → b Ed γ M1)) (Ed.xx γ)
theorem Lk.xok {M : Mem} {γ : Gm} {σ : St} {H : Hp} {Ed : DEnds} {E : Ends} (l : Lk X C M H Ed E) (r : Rel ⟨X.K, C⟩ M γ σ H) : XOk X C M σ H (Ed.xx γ) := fun M' H' xd cls d o i x h => l.xx γ M' σ H' xd cls d (r.mk' x o) i x h
theorem qs_exprX (he : QEX X C e ve) (hs : swapsWith e none pos.line X.env = pure false := by rfl) : QS X C (.Expr e pos) (vDropX ve) :=
  let ⟨_, p, s⟩ := he.ex; ⟨_, ps_expr p hs, fun Ed γ M σ H E r l h => s γ M _ (Ed.xx γ) σ H _ r h (fun d M1 x H1 o1 i1 e1 h1 => l.nx γ M1 σ H1 (r.mk' e1 o1) e1 h1) (l.xok r)⟩
theorem snd_asgX {ta : TE} {tg : TG} {g : DG} (sa : SndX X C ta ve) (sg : SndG ⟨X.K, C⟩ tg g) : SndS X C (tAsg ta tg) (vAsgX ve g) := fun Ed γ M σ H E r l h =>
  sa γ M _ (Ed.xx γ) σ H _ r h (fun d M1 x H1 o1 i1 e1 h1 => sg d γ M1 _ σ H1 x _ (r.mk' e1 o1) i1 h1 fun γ' M' σ' H' r' e' h' => l.nx γ' M' σ' H' r' (e1.trans e') h') (l.xok r)
theorem qs_setX {i : Nat} {x : Str} {pos' : Pos} (hN : X.N.Nodup) (he : QEX X C e ve) (hi : X.N[i]? = some x := by rfl) (hx : Loc X.env.scope x := by first | exact Or.inl rfl | exact Or.inr rfl) (hs : swapsWith e (some (.Name x pos')) pos.line X.env = pure false := by rfl) (hf : X.fn x = true ∨ X.env.scope.names.lookup x = some .local := by first | exact .inl rfl | exact .inr rfl | assumption) :
    QS X C (.Assign [.Name x pos'] e pos) (vAsgX ve (dName i)) :=
  let ⟨_, p, s⟩ := he.ex; ⟨_, ps_set hN hi hx p hs hf, snd_asgX s sndG_name⟩
theorem qs_ifX {c : Expr} {a b : List Stmt} {vc : DTX} {v u : DS} (hc : QTX X C c vc) (ha : QSs X C a v) (hb : QSs X C b u) : QS X C (.If c a b pos) (vIfX vc v u) := by
  obtain ⟨tc, pc, sc⟩ := hc.ex
  obtain ⟨ta, pa, sa⟩ := ha.ex
  obtain ⟨tb, pb, sb⟩ := hb.ex
  refine ⟨_, ps_if pc pa pb, fun Ed γ M σ H E r l h => sc γ M _ (Ed.xx γ) σ H _ r h (fun k M1 H1 o1 e1 h1 => ?_) (l.xok r)⟩
  cases k with
  | true => rw [if_pos rfl]; exact sa Ed γ M1 σ H1 E (r.mk' e1 o1) (l.ext e1) (h1.1 rfl)
  | false => rw [if_neg Bool.false_ne_true]; exact sb Ed γ M1 σ H1 E (r.mk' e1 o1) (l.ext e1) (h1.2 rfl)
def vBX (v : DEX) : DTX := fun γ M R Xd => v γ M (fun d M1 => match d with
  | .bl b => R b M1
  | _ => False) Xd
def vIsNX (f : Bool → Bool) (a : DEX) : DEX := fun γ M R Xd => a γ M (fun d M1 => R (.bl (f (isNon d))) M1) Xd
theorem snd_tBX {t : TE} {v : DEX} (s : SndX X C t v) : SndTX X C (tB t) (vBX v) := fun γ M R Xd σ H Q re h k kx => s γ M _ Xd σ H _ re h (fun d M1 x H1 o1 i1 e1 h1 => by
  cases d with
  | bl b => unfold Is at i1; exact ⟨b, i1, k b M1 H1 o1 e1 h1⟩
  | _ => exact False.elim h1) kx
theorem qxt_notN {j p} (h : QEX X C e ve) : QTX X C (.Compare e [.IsNot] [.Constant .none j p] pos) (vBX (vIsNX Bool.not ve)) := by
  obtain ⟨ta, pa, sa⟩ := h.ex
  exact ⟨_, pt_cmp (pc_notN pa), snd_tBX fun γ M R Xd σ H Q re h k kx => sa γ M _ Xd σ H _ re h (fun d M1 x H1 o1 i1 e1 h1 => k _ M1 _ H1 o1 (by unfold Is; rw [isNon_ok i1]) e1 h1) kx⟩
end
def FldOk (M : Mem) (d : D) : Prop := pureD d = true ∨ ∃ p, d = .own p ∧ (M p).isSome = true
def finX (M : Mem) (Xd : DX) : DX := fun xd M' => ∃ M2, Sub M2 M' ∧ (∀ a, (M a).isSome = true → (M2 a).isSome = true) ∧ FldOk M2 xd.fld ∧ Xd xd M2
theorem finX_pure {M : Mem} {Xd : DX} {xd : XD} (h : Xd xd M) (p : pureD xd.fld = true := by rfl) : finX M Xd xd M := ⟨M, Sub.refl, fun _ h => h, .inl p, h⟩
theorem finX_to {M M' : Mem} {Xd : DX} {xd : XD} (M2 : Mem) (s : Sub M2 M') (dm : ∀ a, (M a).isSome = true → (M2 a).isSome = true) (p : FldOk M2 xd.fld) (h : Xd xd M2) : finX M Xd xd M' := ⟨M2, s, dm, p, h⟩
def xEnds (M : Mem) (Xd : DX) : DEnds := { nx := fun _ _ => False, rt := fun _ _ => False, xx := fun _ xd M' => finX M Xd xd M' }
theorem xis_sub {G : Gx} {M M' : Mem} {H : Hp} {xd : XD} {cls : Value} {d : Option Addr} (s : Sub M M') (p : FldOk M xd.fld) (h : XIs G M' H xd cls d) : XIs G M H xd cls d := by
  obtain ⟨h1, h2, h3⟩ := h
  refine ⟨h1, h2, ?_⟩
  rcases h3 with h3 | ⟨n, dd, u, e, m, hd, i⟩
  · exact .inl h3
  · refine .inr ⟨n, dd, u, e, s.non m, hd, ?_⟩
    rcases p with p | ⟨q, e', hq⟩
    · exact Is.sub (fun a ha => s.non ha) _ _ p i
    · rw [e'] at i ⊢
      unfold Is at i ⊢
      exact ⟨i.1, hq⟩
section
variable {P : Program} {w : World} {K : PySem.W.Frag} {mg : Str → Option Value} {base : Heap} {x qual : Str} {params : Arguments} {body : List Stmt} {scope : Scope} {dvs : List V} {kws : List (Str × V)} {f : Addr} {fd : FuncData}
theorem fn_okX {N ps : List Str} {k : Nat} {C : Addr} {S : DSx} {v : DS} (n m : Nat) (F : FunD K x qual params body scope dvs kws f fd) (SC : FnScope N ps scope)
    (hq : ∀ (cdv : Value) (A : Around) (outer : List Env) (s : Shared) (H : Hp) (E : XK), Room k (A.deeper (PyProof.Rows.envOfC qual scope s.heap.objs.size f cdv)) → QSs (cxOf (CXp P w) P w K mg base N qual scope f cdv A outer s H E) C body v)
    (hv : ∀ ds M Xd, ds.length = m → S ds M Xd → v (xEnds M Xd) (st0 n ds) M) (hn : N.length = n := by rfl) (hm : ps.length = m := by rfl) : FnOk P w K mg base (CXp P w) (k + 1) f fd ps (spX ⟨K, C⟩ m S) := by
  subst hn; subst hm
  have hpl : ps.length ≤ N.length := by have := congrArg List.length SC.pre; rw [List.length_take] at this; omega
  obtain ⟨oc, od, dV, kV, doc, pm, an, cdv, ct, osl, e, lk, hcd, _⟩ := F.ex
  subst e
  refine fn_of lk hcd SC (fun vs H Q E h => ?_) (fun A outer s H vs Q E hr h => ?_)
  · obtain ⟨ds, M, Xd, hl, il, _⟩ := h
    rw [← il.len]; exact hl
  · obtain ⟨ds, M, Xd, hl, il, ow, hs, k2⟩ := h
    obtain ⟨t, pt, st⟩ := (hq cdv A outer s H E hr).ex
    refine ⟨t, pt, st (xEnds M Xd) (st0 N.length ds) M _ H _ ⟨st0_rel il (by omega), ow⟩ ⟨fun _ _ _ _ _ _ z => z.elim, fun _ _ _ _ _ _ _ z => z.elim, fun _ _ _ _ _ _ z => z.elim, fun _ _ _ _ _ _ z => z.elim, ?_⟩ (hv ds M Xd hl hs)⟩
    intro γ M' σ H' xd cls d r i e' hf
    obtain ⟨M2, sb, dm, pu, hx⟩ := hf
    exact wX_of (takes_of rfl rfl rfl rfl) (k2 xd M2 cls d H' (r.ow.sub sb) (xis_sub sb pu i) (e'.sub sb dm) hx)
end
end Dl
namespace Dl
open PySem L2
def spEx (C : Addr) (f : Str) : Sp := fun vs H Q _ => ∃ (a : Addr) (y : V), vs = [V.ref a, y] ∧ H a = some (exo a C none) ∧ ∀ dd, H dd = none → dd ≠ a → Q .non (upd (upd H dd (exd dd [(f, y)])) a (exo a C (some dd)))
structure ExK (P : Program) (w : World) (K : PySem.W.Frag) (mg : Str → Option Value) (base : Heap) (k : Nat) (c : Str) : Prop where
  ex : ∃ (fI : Addr) (fd : FuncData) (ps : List Str), mg c = some (.ref (He.ga K c)) ∧ OexC K (He.ga K c) ∧ PySem.W.findIn K (.ref (He.ga K c)) "__init__" = some (some (.ref fI)) ∧ PySem.W.typeIn K (.ref fI) = some (.type "function") ∧
    FnOk P w K mg base CX0 k fI fd ps (spEx (He.ga K c) (fldN c)) ∧ Binds K fd ps [] ∧ PySem.W.exmOne K (.ref (He.ga K c)) (.ref (He.ga K "FourTestsError")) = some true ∧ noFld c = false
def vRaise (c : Str) (a : DA) : DS := fun Ed γ M => a γ M fun ds M1 => match ds with
  | [d] => Ed.xx γ ⟨c, d⟩ M1
  | _ => False
section
variable {X : Cx} {C : Addr} {j k : Nat} {c : Str} {e : Expr} {va : DA} {p pos pos' : Pos}
theorem del_upd {H : Hp} {a dd : Addr} {o u z : HO} {w : HO} (ha : H a = none) (hne : dd ≠ a) : upd (del (upd (upd (upd H a o) dd u) a z) a) dd w = upd H dd w := by
  funext b
  by_cases h1 : b = dd
  · rw [h1, upd_same, upd_same]
  · rw [upd_ne h1, upd_ne h1]
    by_cases h2 : b = a
    · rw [h2, del_same, ha]
    · rw [del_ne h2, upd_ne h2, upd_ne h1, upd_ne h2]
theorem qs_raise (h : ExK X.prog X.w X.K X.mg X.base k c) (hr : Room j X.A) (hkj : k + 1 ≤ j) (ha : QA X C [e] va) (hg : Gl X c := by rfl) (hc : X.calm = true := by rfl) (hdb : (c == ("__debug__" : Str)) = false := by decide)
    (he : starEach [e] X.env = (false, eval e X.env) :: starEach [] X.env := by rfl) (hpl : (backTo pos (starEach [] X.env)).any (·.1) = false := by rfl) : QS X C (.Raise (some (.Call (.Name c p) [e] [] pos)) none pos') (vRaise c va) := by
  obtain ⟨fI, fd, ps, h1, h2, h3, h4, h5, h6, h7, h8⟩ := h.ex
  obtain ⟨ta, pa, sa⟩ := ha.ex
  refine ⟨_, ps_raise hc takes_wX (pmk_oex h2 h3 h4 h5 (hr.mono hkj) h6 .nil pass0 hg h1 pa hdb he hpl), fun Ed γ M σ H E r l hv => sa γ M _ σ H _ r hv fun ds M1 xs H1 o1 i1 e1 hx => ?_⟩
  match ds, hx with
  | [d], hx =>
    obtain ⟨y, ey, iy⟩ := isL1 i1
    subst ey
    refine ⟨by show 1 ≤ 1000; decide, fun a na => ⟨a, y, rfl, upd_same, fun dd hdd hne => ⟨rfl, dd, [(fldN c, y)], upd_same, ?_, ?_, ?_⟩⟩⟩
    · rw [upd_ne hne, upd_same]
    · rw [upd_ne hne] at hdd; exact hdd
    · rw [upd_ne hne] at hdd
      rw [del_upd na hne]
      refine l.xx γ M1 σ _ ⟨c, d⟩ _ _ (r.mk' (e1.trans (Ext.new hdd)) (o1.new hdd)) ⟨rfl, h7, .inr ⟨h8, dd, y, rfl, o1.fresh hdd, upd_same, Is.ext (Ext.new hdd) d y iy⟩⟩ (e1.trans (Ext.new hdd)) hx
end
theorem exH_ok {P : Program} {w : World} {H : Hp} {h : Heap} {C a : Addr} {d : Option Addr} {oe : Obj} {vs : Array Value} (e : h.get? a = some oe) (z : Zc (.ref C) d oe) (hd : oe.data = .fields vs) : ObjOk P w H h a (exH C d a) :=
  ⟨⟨oe, vs, e, z, hd⟩, ⟨oe, e⟩, fun _ _ ⟨o, v, q, r⟩ k => ⟨o, v, k o q, r⟩⟩
section
variable {X : Cx} {pins : List (Addr × Obj)} {σ : St} {H : Hp} {s : Shared}
theorem inv_adopt {C a : Addr} {d : Option Addr} {oe : Obj} {vs : Array Value} (I : Inv X ((a, oe) :: pins) σ H s) (n0 : X.s_0.heap.get? a = none) (np : ∀ p ∈ X.pn ++ pins, p.1 ≠ a) (z : Zc (.ref C) d oe) (hd : oe.data = .fields vs) :
    Inv X pins σ (upd H a (exH C d a)) s := by
  obtain ⟨ha, na, nL, nF, nc⟩ := I.pin (a, oe) (List.mem_append_right _ List.mem_cons_self)
  have ne0 : ∀ b o, X.s_0.heap.get? b = some o → b ≠ a := fun b o q y => by rw [y, n0] at q; cases q
  have neH : ∀ {b : Addr} {u : HO}, H b = some u → b ≠ a := fun {b u} q y => by rw [y, na] at q; cases q
  have B := I.base
  refine ⟨I.ok, I.os, I.bare, ⟨B.keep, B.slot, fun b o q n hx => ?_, B.there, fun b xs q => ?_, fun b o u q => ?_, fun b ps q => ?_⟩, I.loc, I.cell, ?_, fun x c q => ?_, fun p hp => ?_, fun b u q => ?_, I.len⟩
  · rw [upd_ne (ne0 b o q)]; exact B.free b o q n hx
  · have y := B.tups b xs q
    rw [upd_ne (neH y)]; exact y
  · have y := B.frzs b o u q
    rw [upd_ne (neH y)]; exact y
  · obtain ⟨more, y⟩ := B.tbls b ps q
    exact ⟨more, by rw [upd_ne (neH y)]; exact y⟩
  · rw [upd_ne (fun y => nL y.symm)]; exact I.free
  · have nca : c ≠ a := fun y => by
      obtain ⟨v, o, ho, hdd⟩ := I.cell x c q
      rw [y, ha] at ho; cases ho
      exact nc _ hdd
    rw [upd_ne nca]; exact I.freeC x c q
  · have hp2 : p ∈ X.pn ++ (a, oe) :: pins := by
      rcases List.mem_append.mp hp with y | y
      · exact List.mem_append_left _ y
      · exact List.mem_append_right _ (List.mem_cons_of_mem _ y)
    obtain ⟨q1, q2, q3⟩ := I.pin p hp2
    exact ⟨q1, by rw [upd_ne (np p hp)]; exact q2, q3⟩
  · by_cases hb : b = a
    · subst hb
      rw [upd_same] at q
      cases q
      exact exH_ok ha z hd
    · rw [upd_ne hb] at q
      exact (I.hok b u q).stay (fun _ _ _ y => y) (fun c y => by rw [upd_ne (neH y)]; exact y) fun c xs y => by rw [upd_ne (neH y)]; exact y
theorem inv_unsuite {a : Addr} {oe : Obj} {pn' : List (Addr × Obj)} (I : Inv (X.suite a ((a, oe) :: (X.pn ++ pins))) pn' σ H s) (ok : X.Ok) : Inv X ((a, oe) :: pins) σ H s :=
  ⟨ok, I.os, I.bare, I.base, I.loc, I.cell, I.free, I.freeC, fun p hp => I.pin p (List.mem_append_left _ (by
    rcases List.mem_append.mp hp with y | y
    · exact List.mem_cons_of_mem _ (List.mem_append_left _ y)
    · rcases List.mem_cons.mp y with y | y
      · rw [y]; exact List.mem_cons_self
      · exact List.mem_cons_of_mem _ (List.mem_append_right _ y))), I.hok, I.len⟩
end
def xdD (x : XD) : D := if noFld x.cls then .exn0 x.cls else .exn x.cls x.fld
def vTry (i j : Nat) (b : DS) : DS := fun Ed γ M => b { Ed with xx := fun γ' xd M' => Ed.nx (gset (gset (gset γ' i (some (xdD xd))) j (some (xdD xd))) i none) M' } γ M
def liftS (X : Cx) (C : Addr) (v : DS) : TS := fun E σ H => ∃ (Ed : DEnds) (γ : Gm) (M : Mem), Rel ⟨X.K, C⟩ M γ σ H ∧ Lk X C M H Ed E ∧ v Ed γ M
theorem xis_is {G : Gx} {M : Mem} {H : Hp} {xd : XD} {cls : Value} {d : Option Addr} {a : Addr} (h : XIs G M H xd cls d) (o : Own G M H) (na : H a = none) : Is G M (upd H a (exH (He.ga G.K xd.cls) d a)) (xdD xd) (.ref a) := by
  obtain ⟨h1, h2, h3⟩ := h
  have ma := o.fresh na
  rcases h3 with ⟨n, e⟩ | ⟨n, dd, u, e, m, hd, i⟩
  · unfold xdD
    rw [if_pos n, e]
    unfold Is
    exact ⟨a, rfl, ma, upd_same⟩
  · unfold xdD
    rw [if_neg (by rw [n]; decide), e]
    unfold Is
    exact ⟨a, dd, u, rfl, ma, upd_same, m, by rw [upd_ne (ne_of_none hd na)]; exact hd, Is.ext (Ext.new na) _ _ i⟩
section
variable {X : Cx} {C : Addr} {x n y : Str} {i j : Nat} {body : List Stmt} {np pn1 pn2 pa pos pos' : Pos} {vb : DS}
theorem qs_try (hN : X.N.Nodup) (hm : X.mg x = some (.ref (He.ga X.K "FourTestsError"))) (hb : ∀ (pn : List (Addr × Obj)) (xe : Value → Shared → Prop), PassesOwn (model X.prog X.w) X.A X.env xe → QSs (X.tr pn xe) C body vb) (hi : X.N[i]? = some n := by rfl) (hln : X.env.kindOf n = some .local := by rfl) (hj : X.N[j]? = some y := by rfl) (hlj : X.env.kindOf y = some .local := by rfl) (hg : Gl X x := by rfl)
    (hs : X.stack = X.env :: X.outer := by rfl) (hf : X.env.frame = some X.env.locals := by rfl) (hex : X.ex = [] := by rfl) (hdb : (x == ("__debug__" : Str)) = false := by decide) (hdn : (n == ("__debug__" : Str)) = false := by decide) (hcn : (n == ("__classdict__" : Str)) = false := by decide)
    (hsw : ∀ (a : Addr) (pn : List (Addr × Obj)), swapsWith (.Name n pn1) (some (.Name y pn2)) pa.line (X.suite a pn).env = pure false := by intro _ _; rfl) :
    QS X C (.Try body [.ExceptHandler (some (.Name x np)) (some n) [.Assign [.Name y pn2] (.Name n pn1) pa] pos'] [] [] pos) (vTry i j vb) := by
  refine ⟨liftS X C (vTry i j vb), ⟨fun pins s σ H E I h => ?_⟩, fun Ed γ M σ H E r l h => ⟨Ed, γ, M, r, l, h⟩⟩
  obtain ⟨Ed, γ, M, r, l, h⟩ := h
  have ok := I.ok
  have hfr : X.A.frames = some (X.env :: X.outer) := by rw [ok.frames, hs]
  refine wpAny_Try_except ?_
  obtain ⟨xe, hxe⟩ : ∃ xe : Value → Shared → Prop, xe = fun e s₁ => wpAny (model X.prog X.w) X.A (noteFrame e X.env) (fun _ s₂ => wpAny (model X.prog X.w) X.A (setFlight e none) (fun _ s₃ => wpAny (model X.prog X.w) X.A (handleBy e X.env [.ExceptHandler (some (.Name x np)) (some n) [.Assign [.Name y pn2] (.Name n pn1) pa] pos']) (SP X pins E) X.xe s₃) X.xe s₂) X.xe s₁ := ⟨_, rfl⟩
  have hpo : PassesOwn (model X.prog X.w) X.A X.env xe := by rw [hxe]; exact PassesOwn.looking
  obtain ⟨tb, pb, sb⟩ := (hb (X.pn ++ pins) xe hpo).ex
  have lk : Lk (X.tr (X.pn ++ pins) xe) C M H { Ed with xx := fun γ' xd M' => Ed.nx (gset (gset (gset γ' i (some (xdD xd))) j (some (xdD xd))) i none) M' } E := by
    refine ⟨l.nx, l.rt, l.bk, l.ct, ?_⟩
    intro γ' M' σ' H' xd cls d r' xi ex hnx u s' a B sI pins' eu I' nb up sky na os ag
    have J : Inv X pins σ' H' sI := I'.ofTry ok
    have ecls : cls = .ref (He.ga X.K xd.cls) := xi.1
    have sky' : Sky B (X.env :: X.outer) a (Zc cls d) X.env.locals s'.heap := by rw [← hs]; exact sky
    subst eu
    show xe (.ref a) s'
    rw [hxe]
    show wpAny _ X.A (noteFrame (.ref a) X.env) _ _ _
    refine Sky.land Zc.steady hfr hf sky' fun h3 fl3 up3 => ?_
    have J3 : Inv X pins σ' H' { s' with heap := h3 } := J.landed nb fl3.1 (up.trans up3) os ag
    obtain ⟨oe3, vs3, he3, hz3, hd3⟩ := fl3.there
    have nfr : a ∉ frs (X.env :: X.outer) := fun hm2 => by
      obtain ⟨_, o2, e2, hnf⟩ := fl3.2.2.1.mem hm2
      rw [he3] at e2; cases e2
      exact hnf _ hd3
    have nL : a ≠ X.env.locals := fun z => nfr (List.mem_filterMap.mpr ⟨X.env, List.mem_cons_self, by rw [hf, z]⟩)
    have nF : a ∉ X.fs := fun hm2 => by
      obtain ⟨v, hv, q⟩ := List.mem_filterMap.mp hm2
      exact nfr (List.mem_filterMap.mpr ⟨v, List.mem_cons_of_mem _ hv, q⟩)
    have nB : B.get? a = none := fl3.2.1
    have nI : sI.heap.get? a = none := by
      cases q : sI.heap.get? a with
      | none => rfl
      | some o =>
        have z := nb a o q (by rw [hs]; exact nfr)
        rw [nB] at z; cases z
    have n0 : X.s_0.heap.get? a = none := by
      cases q : X.s_0.heap.get? a with
      | none => rfl
      | some o =>
        obtain ⟨o2, z⟩ := J.base.there a o q (by rw [hex]; exact fun z => nomatch z)
        rw [nI] at z; cases z
    have npn : ∀ p ∈ X.pn ++ pins, p.1 ≠ a := fun p hp z => by
      obtain ⟨q, _⟩ := J.pin p hp
      rw [z, nI] at q; cases q
    have S3 := J3.suite he3 hd3 na nL nF
    refine wpAny_handleBy_cons (codeAny_handlers_test ?_) (by intro q; cases q)
    have LT : PySem.W.Looks (model X.prog X.w) h3 (typeOf (.ref a)) cls := fun A Q E2 s2 k q => wpAny_typeOf_ref (k _ _ he3) (by rw [hz3.1]; exact q)
    have LM := PySem.W.exm_one (M := model X.prog X.w) (J3.kIn) LT xi.2.1
    refine ld_glob (X := X.suite a ((a, oe3) :: (X.pn ++ pins))) S3 hg hm (LM.here ?_) hdb
    refine codeAny_handlers_suite_as ?_
    refine HandSPX.lands_againZ fl3 fun h4 fl4 up4 => ?_
    have J4 : Inv X pins σ' H' { s' with heap := h4 } := J.landed nb fl4.1 ((up.trans up3).trans up4) os ag
    obtain ⟨oe4, vs4, he4, hz4, hd4⟩ := fl4.there
    have S4 := J4.suite he4 hd4 na nL nF
    refine store_ok (X := X.suite a ((a, oe4) :: (X.pn ++ pins))) (v := .ref a) S4 hN hi (.inl hln) rfl (fun s5 S5 => ?_) (.inr hln)
    have hlen : i < σ'.length := by rw [J.len]; exact (List.getElem?_eq_some_iff.mp hi).1
    refine wpAny_mono ((pss_one (ps_set (X := X.suite a ((a, oe4) :: (X.pn ++ pins))) (pos := pa) hN hj (.inl hlj) (pe_var (pos := pn1) hi (.inl hln) hdn hcn) (hsw a _) (.inr hlj))).run [] s5 _ H'
      { nx := fun σ2 H2 => σ2 = (σ'.set i (some (.ref a))).set j (some (.ref a)) ∧ H2 = H', rt := fun _ _ => False } S5 ⟨.ref a, by rw [List.getElem?_set_self hlen], rfl, rfl⟩) (fun f s6 hsp => ?_) (fun _ _ z => False.elim z)
    cases f with
    | next =>
      obtain ⟨σ6, H6, S6, e1, e2⟩ := hsp
      rw [e1, e2] at S6
      refine gone_ok (inv_unsuite S6 ok) hN hi hln fun s7 J7 => ?_
      have Z4 : Zc (.ref (He.ga X.K xd.cls)) d oe4 := by rw [← ecls]; exact hz4
      have J8 := inv_adopt J7 n0 npn Z4 hd4
      have isd := xis_is xi r'.ow na
      have xnew : Ext M' M' H' (upd H' a (exH (He.ga X.K xd.cls) d a)) := Ext.new na
      refine ⟨_, _, J8, l.nx _ M' _ _ ⟨?_, r'.ow.new na⟩ (ex.trans xnew) hnx⟩
      exact SlR.unset ((SlR.set (SlR.set (r'.sl.ext xnew) isd) isd))
    | ret u => obtain ⟨_, _, _, _, _, z⟩ := hsp; exact z.elim
    | brk => obtain ⟨_, _, _, z⟩ := hsp; exact z.elim
    | cont => obtain ⟨_, _, _, z⟩ := hsp; exact z.elim
  refine wpAny_mono (pb.run [] s σ H E (I.toTry _) (sb _ γ M σ H E r lk h)) (fun f s1 hsp => ?_) (fun e s1 he => by
    have he2 : xe e s1 := he
    rw [hxe] at he2
    exact he2)
  cases f with
  | next =>
    obtain ⟨σ1, H1, I1, q⟩ := hsp
    exact wpAny_execs_nil ⟨σ1, H1, I1.ofTry ok, q⟩
  | ret u =>
    obtain ⟨v, σ1, H1, I1, ru, q⟩ := hsp
    exact ⟨v, σ1, H1, I1.ofTry ok, ru, q⟩
  | brk =>
    obtain ⟨σ1, H1, I1, q⟩ := hsp
    exact ⟨σ1, H1, I1.ofTry ok, q⟩
  | cont =>
    obtain ⟨σ1, H1, I1, q⟩ := hsp
    exact ⟨σ1, H1, I1.ofTry ok, q⟩
end
end Dl
namespace Dl
open PySem PySem.W PySem.Calls PyProof.Rows
section
variable {P : Program} {w : World} {A : Around} {E : Value → Shared → Prop}
theorem call_mw {hp : Heap} {g : Array GenState} {d : Drawn} {t : Nat} {os : OsState} {nm q : Str} {C N x m t0 : Addr} {bs bm : List Value} {hdct : Bool} {sn : List Str} {sub : List Value} {ab : Bool} {col : Option Bool} {dd : Option Addr} {k0 k1 k2 k3 k5 : Option Value} {u : Value} {Q : Value → Shared → Prop}
    (hC : hp.get? C = some (excClassObj nm q C N bs bm hdct sn sub ab col dd k0 k1 k2 k3 k5 "ValueError.__new__")) (hx : hp.get? x = some (excObj C t0 none .none)) (hm : hp.get? m = some (kxs_mw "ValueError.__init__" x))
    (hq : ∀ h' t1, (∀ b o, b ≠ x → hp.get? b = some o → h'.get? b = some o) → h'.get? x = some (excObj C t1 none .none) → Q .none ⟨h', g, d, t, os⟩) : wpAny (model P w) A (call (.ref m) [u]) Q E ⟨hp, g, d, t, os⟩ := by
  refine wpAny_call (codeAny_of_tree ?_)
  show wpAny _ A.in1 (callAny (.ref m) ⟨[u], []⟩) _ _ _
  simp only [callAny]
  refine wpAny_bind (wpAny_load hm ?_)
  simp only [show (Value.type "method-wrapper" == Value.type "method" || Value.type "method-wrapper" == Value.type "builtin_function_or_method" || Value.type "method-wrapper" == Value.type "method-wrapper") = true by decide, if_true]
  refine KFB.if_so (by decide) (wpAny_bind (check_bound_init F.excBase_ValueError.toExcCallFacts hC hx rfl ?_))
  refine wpAny_bind (wpAny_pure (wpAny_pure ⟨plainId_quiet F.excBase_ValueError.init.plain _, codeAny_builtin F.excBase_ValueError.initEntry ?_⟩))
  exact exc_init_tree (cls := .ref C) (t0 := t0) (dv := none) (c2 := .none) (c3 := .none) (b4 := .bool false) hx (by show 1 ≤ sizeLine; decide) fun h' k e _ => hq h' hp.objs.size k e
theorem callWith_mw {M : Model} {env : Env} {e : Expr} {pos : Pos} {m x : Addr} {i : String} {s : Shared} {Q : Value → Shared → Prop} (hpl : (backTo pos (starEach [e] env)).any (·.1) = false) (he : starEach [e] env = (false, eval e env) :: starEach [] env)
    (h : wpAny M A (spliced (backTo pos (starEach [e] env))) (fun vs s₁ => KxsAt i m x s₁.heap ∧ wpAny M A (call (.ref m) vs) Q E s₁) E s) : wpAny M A (callWith pos (.ref m) [] (backTo pos (starEach [e] env)) []) Q E s := by
  refine kxs_callWith (i := i) (x := x) hpl ?_
  rw [he] at h ⊢
  exact evalArgs_plain h
end
structure ExI (P : Program) (K : Frag) (mg : Str → Option Value) (C fI : Addr) (qual : Str) (params : Arguments) (body : List Stmt) (scope : Scope) (f : Str) : Prop where
  fn : ∃ (oc : Value) (od : Option Addr) (dV kV doc pm : Value) (an : Option Addr) (ct : Value) (cda cc : Addr) (osl : Array (Option Value)), K.lookup fI = some ⟨oc, od, .func (ksFn "__init__" qual params body scope dV kV doc pm an (.ref cda) ct cc), osl⟩ ∧ codeIn K (.ref cda) qual = true ∧
    (∃ (c1 : Value) (d1 : Option Addr) (vs : Array Value) (s1 : Array (Option Value)) (tf : Tok), K.lookup cda = some ⟨c1, d1, .fields vs, s1⟩ ∧ vs[2]? = some (.str P.main.file tf)) ∧ (∃ (c2 : Value) (d2 : Option Addr) (s2 : Array (Option Value)), K.lookup cc = some ⟨c2, d2, .cell (some (.ref C)), s2⟩)
  top : (P.main.scope.names.lookup ("super" : Str)).isSome = false
  sup : mg "super" = none
  oex : L2.OexC K C
  sub : mroIn K C (.ref C) = some true
  ve : subIn K (.ref C) (.type "ValueError") = some true
  par : ∃ cd, clsIn K C = some cd ∧ alongIn K "__init__" ((cd.mro.dropWhile (· != .ref C)).drop 1) = some (some (.builtin "ValueError.__init__"))
  no3 : nsIn K cStatics "thirdparty.any" = some none
  fld : findIn K (.ref C) f = some none
  body_ : ∃ p0 p1 p2 p3 p4 p5 p6 p7 p8 p9, body = [.Expr (.Call (.Attribute (.Call (.Name "super" p0) [] [] p1) "__init__" p2) [.Name f p3] [] p4) p5, .Assign [.Attribute (.Name "self" p6) f p7] (.Name f p8) p9] ∧
    ∀ env : Env, ∃ pl : Sem Bool, eval (.Call (.Attribute (.Call (.Name "super" p0) [] [] p1) "__init__" p2) [.Name f p3] [] p4) env = (do
      let ov ← attributeBase (.Call (.Name "super" p0) [] [] p1) "__init__" env (eval (.Call (.Name "super" p0) [] [] p1) env)
      standAt p2.atName
      let (g, first) ← holding [ov] (getMethod ov "__init__" pl)
      callWith p4 g first (backTo p4 (starEach [.Name f p3] env)) [])
  head : (params.posonlyargs ++ params.args).head?.map (·.arg) = some ("self" : Str)
  sc1 : scope.names.lookup ("self" : Str) = some NameKind.local
  sc2 : scope.names.lookup f = some NameKind.local
  sc3 : scope.names.lookup ("super" : Str) = some NameKind.globalImplicit
  sc4 : scope.names.lookup ("__class__" : Str) = some NameKind.free
  cell : ∀ x ∈ scope.names, x.2 ≠ .cell
  flags : scope.isCoroutine = false ∧ scope.isGenerator = false ∧ scope.kind = .function
  names : (f == ("self" : Str)) = false ∧ (f == ("__debug__" : Str)) = false ∧ (f == ("__classdict__" : Str)) = false
section
variable {P : Program} {w : World} {A : Around} {K : Frag} {mg : Str → Option Value} {C fI x t0 : Addr} {qual f : Str} {params : Arguments} {body : List Stmt} {scope : Scope} {R : Result → Shared → Prop}
theorem exinit_run {args : Args} {u : Value} {hp : Heap} {g : Array GenState} {d : Drawn} {t : Nat} {os : OsState} {fd : FuncData} (T : ExI P K mg C fI qual params body scope f) (hf : ∃ oc od osl, K.lookup fI = some ⟨oc, od, .func fd, osl⟩) (hd : A.depth < recursionLimit) (nx : K.lookup x = none) (X : K.In hp) (nl : hp.NoLimit) (G : hp.Ns mainGlobals mg) (B : ∃ mb, hp.Ns builtinsNs mb ∧ ∀ y : Str, y ≠ "__name__" → mb y = bootBuiltins y)
    (hb : BindsTo ⟨hp, g, d, t, os⟩ fd args [("self", .ref x), (f, u)]) (hx : hp.get? x = some (excObj C t0 none .none))
    (hq : ∀ h' t' dx t1, (∀ b o, b ≠ x → hp.get? b = some o → h'.get? b = some o) → hp.objs.size ≤ dx → dx ≠ x → h'.get? x = some (excObj C t1 (some dx) .none) → h'.Ns1 dx (fun y => if y = f then some u else none) → R (.ok (.ret .none)) ⟨h', g, d, t', os⟩) :
    codeAny (model P w) A (.call (.ref fI) args) R ⟨hp, g, d, t, os⟩ := by
  obtain ⟨oc, od, dV, kV, doc, pm, an, ct, cda, cc, osl, lk, hcd, ⟨c1, d1, vs, s1, tf, lkc, hvs⟩, ⟨c2, d2, s2, lkl⟩⟩ := T.fn
  obtain ⟨oc', od', osl', lk'⟩ := hf
  rw [lk] at lk'
  cases lk'
  obtain ⟨p0, p1, p2, p3, p4, p5, p6, p7, p8, p9, eb, hmc⟩ := T.body_
  obtain ⟨fl1, fl2, fl3⟩ := T.flags
  obtain ⟨cd, hcl, hal⟩ := T.par
  obtain ⟨nf1, nf2, nf3⟩ := T.names
  obtain ⟨nm, q, N, bs, bm, sn, sub, ab, col, dd, k0, k1, k2, k3, k5, hC, hbm⟩ := T.oex.cls
  obtain ⟨mb, Gb, hmb⟩ := B
  have hlt := Heap.lt_size hx
  refine ks_codeAny_call_defAt (body := body) (binds := [("self", .ref x), (f, u)]) hd (X _ _ lk) rfl nl (codeRec_of X hcd) rfl hb T.cell (fun y hy => ?_) (fun h1 hns hk1 => ?_) fl1 fl2 fl3
  · simp only [List.mem_cons, List.mem_nil_iff, or_false] at hy
    rcases hy with rfl | rfl
    · exact T.sc1
    · exact T.sc2
  subst eb
  have X1 : K.In h1 := X.keeps hk1
  obtain ⟨ar, har, harg⟩ : ∃ ar, (params.posonlyargs ++ params.args).head? = some ar ∧ ar.arg = ("self" : Str) := by
    have z := T.head
    cases q : (params.posonlyargs ++ params.args).head? with
    | none => rw [q] at z; cases z
    | some ar => rw [q] at z; exact ⟨ar, rfl, Option.some.inj z⟩
  have vself : (fun y => List.lookup y ([("self", .ref x), (f, u)] : List (Str × Value)).reverse) ("self" : Str) = some (.ref x) := by
    show List.lookup ("self" : Str) [(f, u), ("self", .ref x)] = _
    rw [List.lookup_cons, show (("self" : Str) == f) = false by rw [Bool.beq_comm]; exact nf1]
    rfl
  have vf : (fun y => List.lookup y ([("self", .ref x), (f, u)] : List (Str × Value)).reverse) f = some u := by
    show List.lookup f [(f, u), ("self", .ref x)] = _
    rw [List.lookup_cons, beq_self_eq_true]
  have G1 := Heap.Ns.at G fun o e => hk1 _ o e
  have Gb1 := Heap.Ns.at Gb fun o e => hk1 _ o e
  have hC1 := X1 _ _ hC
  have hx1 := hk1 _ _ hx
  have hint : ∀ fd : FuncData, fd.scope = scope → ∀ L a, interactive (callEnv fd L a) = false := fun fd e L a => by
    show ((fd.scope.kind == .module) && _) = false
    rw [e, fl3]
    rfl
  refine ks_wpAt_execs_cons (ks_wpAt_Expr_any ?_ (hint _ rfl _ _))
  obtain ⟨env, henv⟩ : ∃ env, env = callEnv (ksFn "__init__" qual params [.Expr (.Call (.Attribute (.Call (.Name "super" p0) [] [] p1) "__init__" p2) [.Name f p3] [] p4) p5, .Assign [.Attribute (.Name "self" p6) f p7] (.Name f p8) p9] scope dV kV doc pm an (.ref cda) ct cc) hp.objs.size fI := ⟨_, rfl⟩
  have e1 : env.scope = scope := by rw [henv]; rfl
  have e2 : env.locals = hp.objs.size := by rw [henv]; rfl
  have e3 : env.cells = ([(("__class__" : Str), cc)] : List (Str × Addr)) := by rw [henv]; rfl
  have kS : env.kindOf "self" = some .local := by show env.scope.names.lookup _ = _; rw [e1]; exact T.sc1
  have kF : env.kindOf f = some .local := by show env.scope.names.lookup _ = _; rw [e1]; exact T.sc2
  have kU : env.kindOf "super" = some .globalImplicit := by show env.scope.names.lookup _ = _; rw [e1]; exact T.sc3
  have kC : env.kindOf "__class__" = some .free := by show env.scope.names.lookup _ = _; rw [e1]; exact T.sc4
  have kK : env.scope.kind = .function := by rw [e1]; exact fl3
  rw [← henv]
  obtain ⟨pl, hev⟩ := hmc env
  refine ks_wpAt_MethodCall (pl := pl) ?_ hev
  refine ks_wpAt_super_base (f := fI) (cc := cda) kU kC rfl (by rw [henv]; rfl) (X1 _ _ lk) rfl har (by rw [henv]; rfl) (X1 _ _ lkc) rfl hvs (beq_self_eq_true _) T.top ?_
  refine ks_loadName_global kK kU (loadGlobal_builtin (by rw [henv]; exact G1) T.sup (by rw [henv]; exact Gb1) ((hmb _ (by decide)).trans PyProof.Rows.Boot.super) ⟨rfl, ?_⟩)
  refine wpAny_loadName_free kK kC (by rw [e3]; rfl) ⟨_, X1 _ _ lkl, rfl⟩ ?_
  rw [harg]
  refine wpAny_loadName_local kK kS (by rw [e2]; exact hns) vself ?_
  have hCd : (excClassObj nm q C N bs bm true sn sub ab col dd k0 k1 k2 k3 k5 "ValueError.__new__").data = .cls cd := by
    unfold clsIn at hcl
    rw [hC] at hcl
    exact congrArg Data.cls (Option.some.inj hcl)
  refine ks_wpAny_isType_cls hC1 hCd ⟨rfl, ?_⟩
  refine ks_wpAny_call_super hC1 hCd hx1 rfl (fun c z => by cases z) (looks_mroIn X1 T.sub) fun h2 eso k2 => ?_
  have X2 : K.In h2 := X1.keeps k2
  have hx2 := k2 _ _ hx1
  have hC2 := k2 _ _ hC1
  have I2 : InstAt h2 x (excObj C t0 none .none) C none := ⟨hx2, rfl, rfl, trivial⟩
  have Lm : Looks (model P w) h2 (mroOf (.ref C)) cd.mro := (looks_clsIn X2 hcl).andThen .now
  have Lv : Looks (model P w) h2 (isInstance (.ref x) (.type "ValueError")) true := I2.type.andThen (looks_subIn X2 T.ve)
  refine kxs_getMethod kxs_ValueError eso (looks_opaque X2 T.no3) Lm rfl X2 hal Lv (ks_ne X2 I2 hcl) rfl ?_
  have k3' : ∀ b o, h2.get? b = some o → (h2.push (kxs_mw "ValueError.__init__" x)).get? b = some o := fun b o e => Heap.get?_push_of_some _ e
  have ns3 : (h2.push (kxs_mw "ValueError.__init__" x)).Ns hp.objs.size (fun y => List.lookup y ([("self", .ref x), (f, u)] : List (Str × Value)).reverse) := Heap.Ns.at hns fun o e => k3' _ _ (k2 _ _ e)
  have hstar : ∀ e : Expr, e = .Name f p3 → starEach [e] env = (false, eval e env) :: starEach [] env := fun e z => by subst z; rfl
  refine callWith_mw (i := "ValueError.__init__") (x := x) (by rfl) (hstar _ rfl) ?_
  refine spliced_cons ?_
  refine wpAny_Name (wpAny_loadName_local kK kF (by rw [e2]; exact ns3) vf ?_) nf2
  refine spliced_nil ⟨Heap.get?_push_at rfl rfl, ?_⟩
  refine call_mw (k3' _ _ hC2) (k3' _ _ hx2) (Heap.get?_push_at rfl rfl) fun h4 t1 k4 hx4 => ?_
  have X4 : K.In h4 := fun b o e => by
    have z := k3' _ _ (X2 b o e)
    exact k4 b o (fun hb => by rw [hb, nx] at e; cases e) z
  have ns4 : h4.Ns hp.objs.size (fun y => List.lookup y ([("self", .ref x), (f, u)] : List (Str × Value)).reverse) := Heap.Ns.at ns3 fun o e => k4 _ _ (Nat.ne_of_gt hlt) e
  refine ks_wpAt_execs_cons (ks_wpAt_Assign_Attr ?_ (by rfl))
  refine wpAt_of_wpAny (wpAny_Name (wpAny_loadName_local kK kF (by rw [e2]; exact ns4) vf ?_) nf2)
  refine wpAny_Name (wpAny_loadName_local kK kS (by rw [e2]; exact ns4) vself ?_) (by decide)
  refine set_plain X4 (ox := excObj C t1 none .none) (od := none) ⟨hx4, rfl, rfl, trivial⟩ T.oex.sa ?_
  have hmro : HandSPX.refsVE cd.mro = true := by
    have z : ({ name := nm, bases := bs, mro := .ref C :: bm, ns := N, qualname := q, hasDict := true, slotNames := sn, subclasses := sub, abstract := ab, collection := col, hasDel := false } : ClassData) = cd := Data.cls.inj hCd
    rw [← z]; exact hbm
  have hdc : cd.hasDict = true := by
    have z : ({ name := nm, bases := bs, mro := .ref C :: bm, ns := N, qualname := q, hasDict := true, slotNames := sn, subclasses := sub, abstract := ab, collection := col, hasDel := false } : ClassData) = cd := Data.cls.inj hCd
    rw [← z]
  refine HandSPX.exc_osa X4 hx4 hcl hmro hdc T.fld fun h5 t5 dx k5' dn dne hx5 hn5 => ?_
  refine wpAt_of_wpAny (wpAny_execs_nil ?_)
  have hL : hp.objs.size < dx := by
    obtain ⟨o, es, ep, ho, _⟩ := ns4
    exact Nat.lt_of_lt_of_le (Heap.lt_size ho) dn
  exact hq h5 _ dx t1 (fun b o hb e => k5' b o hb (k4 b o hb (k3' b o (k2 b o (hk1 b o e))))) (Nat.le_of_lt hL) dne hx5 hn5
end
end Dl
namespace Dl
open PySem L2
theorem fn_exinit {P : Program} {w : World} {K : PySem.W.Frag} {mg : Str → Option Value} {base : Heap} {k : Nat} {C fI : Addr} {qual f : Str} {params : Arguments} {body : List Stmt} {scope : Scope} {fd : FuncData} (T : ExI P K mg C fI qual params body scope f) (hf : ∃ oc od osl, K.lookup fI = some ⟨oc, od, .func fd, osl⟩) : FnOk P w K mg base CX0 (k + 1) fI fd ["self", f] (spEx C f) := by
  refine ⟨fun vs H Q E h => ?_, fun A outer s H args us vs Q E hr e0 hb r h => ?_⟩
  · obtain ⟨a, y, e, _⟩ := h
    rw [e]; rfl
  · obtain ⟨a, y, ev, ea, hq⟩ := h
    subst ev
    cases r with
    | @cons _ u1 _ ur r1 rr =>
      cases rr with
      | @cons _ u _ ur2 ry rr2 =>
        cases rr2
        obtain rfl : u1 = Value.ref a := r1
        obtain ⟨t0, ho⟩ := exo_at e0.hok ea
        have nb : base.get? a = none := by
          cases q : base.get? a with
          | none => rfl
          | some o =>
            have z := (e0.bs a o q).2
            rw [ea] at z; cases z
        have kin : K.In s.heap := e0.mod.kin.keeps fun b o e => (e0.bs b o e).1
        have nx : K.lookup a = none := by
          cases q : K.lookup a with
          | none => rfl
          | some o =>
            have z := e0.mod.kin a o q
            rw [nb] at z; cases z
        have G : s.heap.Ns mainGlobals mg := Heap.Ns.at e0.mod.glob fun o e => (e0.bs _ o e).1
        obtain ⟨mb, Gb, hmb⟩ := e0.mod.blt
        have Gb2 : s.heap.Ns builtinsNs mb := Heap.Ns.at Gb fun o e => (e0.bs _ o e).1
        have nl : s.heap.NoLimit := e0.mod.nolimit.keeps fun b o e => (e0.bs b o e).1
        obtain ⟨hp, g, d, t, os⟩ := s
        refine exinit_run T hf hr.depth nx kin nl G ⟨mb, Gb2, hmb⟩ hb ho fun h' t' dx t1 kk dn dne hx hn => ?_
        have hnd : H dx = none := e0.hok.fresh dn
        have lt : ∀ {b : Addr} {o : Obj}, hp.get? b = some o → b ≠ dx := fun {b o} q => Nat.ne_of_lt (Nat.lt_of_lt_of_le (Heap.lt_size q) dn)
        have nea : ∀ {b : Addr}, H b = none → b ≠ a := fun {b} n z => by rw [z, ea] at n; cases n
        refine ⟨.non, upd (upd H dx (exd dx [(f, y)])) a (exo a C (some dx)), rfl, e0.bare, ⟨fun b o q n _ _ => kk b o (nea n) q, fun b o q n _ _ => ⟨o.slots, kk b o (nea n) q⟩, fun b o q n _ => ?_, fun b o q _ => ?_, fun b xs q => ?_, fun b o v q => ?_, fun b ps q => ?_⟩, fun b o q => ?_, rfl, hq dx hnd dne⟩
        · rw [upd_ne (nea n), upd_ne (lt q)]; exact n
        · by_cases hba : b = a
          · rw [hba]; exact ⟨_, hx⟩
          · exact ⟨o, kk b o hba q⟩
        · rw [upd_ne (at_ne ea q exo_tup), upd_ne (ne_of_none q hnd)]; exact q
        · rw [upd_ne (at_ne ea q exo_frz), upd_ne (ne_of_none q hnd)]; exact q
        · exact ⟨#[], by rw [upd_ne (at_ne ea q exo_tbl), upd_ne (ne_of_none q hnd), q]; simp⟩
        · by_cases hba : b = a
          · subst hba
            rw [upd_same] at q
            cases q
            exact exo_ok hx
          · rw [upd_ne hba] at q
            by_cases hbd : b = dx
            · subst hbd
              rw [upd_same] at q
              cases q
              refine exd_ok hn fun g2 => ?_
              exact relO_put (fs := []) (mA := fun _ => none) ry (fun _ => True.intro) g2
            · rw [upd_ne hbd] at q
              refine (e0.hok b o q).stay (fun c v hc z => kk c v ?_ z) (fun c hc => ?_) fun c xs hc => ?_
              · rcases hc with hc | hc
                · rw [hc]; exact hba
                · exact at_ne ea hc exo_own
              · rw [upd_ne (at_ne ea hc exo_own), upd_ne (ne_of_none hc hnd)]; exact hc
              · rw [upd_ne (at_ne ea hc exo_tup), upd_ne (ne_of_none hc hnd)]; exact hc
end Dl
namespace Dl
open PySem PySem.W PySem.Calls PyProof.Rows
section
variable {prog : Program} {w : World} {A : Around} {E : Value → Shared → Prop} {s : Shared} {K : Frag} {x D : Addr} {ox : Obj} {od : Option Obj}
theorem exc_class {Q : Option Value → Shared → Prop} (T : L2.ExcC K D) (X : K.In s.heap) (I : InstAt s.heap x ox D od) (h : Q (some (.ref D)) { s with toks := s.toks + 1 }) : wpAny (model prog w) A (getAttr? (.ref x) "__class__") Q E s := by
  obtain ⟨cd, hcd, _⟩ := any_some T.hd
  have hfo : findObj K D od "__class__" = some (.bind (.builtin "getset_descriptor.__get__") (.builtin "object.__class__")) := by
    unfold findObj
    rw [hcd, Option.bind_some, T.ha, Option.bind_some]
    simp [T.hn, T.ht]
  obtain ⟨hp, g, d, t, os⟩ := s
  have M0 := I.type (M := model prog w)
  have M1 := looks_findIn (M := model prog w) X T.hg
  have M2 := looks_findIn (M := model prog w) X T.hk
  have M3 := looks_find (M := model prog w) X I hfo
  have Ms : Looks (model prog w) hp (isInstance (.ref x) (.type "BaseException")) true := M0.andThen (looks_subIn X T.hs)
  have nb : (Value.builtin "BaseException.__getattribute__" == Value.builtin "object.__getattribute__") = false := by decide +kernel
  unfold getAttr? getAttrBy? getAttrBy
  refine wpAny_bind (wpAny_mkText (wpAny_bind (wpAny_attempt (wpAny_holding (wpAny_bind (M0.at (wpAny_bind (M1.at ?_))))))))
  show wpAny _ _ (if (onTheHeap (Value.ref D) && Value.builtin "BaseException.__getattribute__" == Value.builtin "object.__getattribute__") = true then _ else _) _ _ _
  rw [if_neg (by rw [nb]; simp)]
  unfold getAttrByItsOwn hookBefore
  refine wpAny_bind ?_
  rw [if_pos (by rfl)]
  refine M2.at (wpAny_bind (wpAny_attempt (wpAny_holding ?_)))
  unfold callGetattribute
  rw [if_neg (show ¬ ((false && onTheHeap (Value.builtin "BaseException.__getattribute__")) = true) by decide)]
  unfold boundAndCalled
  rw [PySem.F.excAttr_ValueError.ga.bind (.ref x)]
  refine wpAny_bind (wpAny_pure ?_)
  show wpAny _ _ (call (.builtin "BaseException.__getattribute__") [.ref x, .str "__class__" t]) _ _ _
  refine wpAny_call (codeAny_call_builtin PySem.F.excAttr_ValueError.ga.plain PySem.F.entry_bexc_ga (@check_slot (model prog w) _ _ ⟨hp, g, d, t + 1, os⟩ "BaseException.__getattribute__" "BaseException" "__getattribute__" (.ref x) [.str "__class__" t] [] _ (by decide +kernel) (by decide +kernel) Ms (PySem.F.args_bexc_ga (.ref x) (.str "__class__" t)) ?_))
  unfold Builtin.«object.__getattribute__»
  refine wpAny_bind (wpAny_of_eq (a := ((Value.ref x : Value), [Value.str "__class__" t])) (by first | rfl | (simp only [slotArgs]; rfl)) (wpAny_bind (wpAny_pure (wpAny_bind (M0.at (wpAny_bind (M3.at ?_)))))))
  show wpAny _ _ (holding [Value.builtin "object.__class__"] (call (.builtin "getset_descriptor.__get__") [.builtin "object.__class__", .ref x, .ref D]) >>= ret) _ _ _
  refine wpAny_bind (wpAny_holding (wpAny_call (class_get (s := ⟨hp, g, d, t + 1, os⟩) (ox := ox) (od := od) X I T.hm (wpAny_pure ?_))))
  show wpAny _ _ (handedOut (.ref D)) _ _ _
  rw [handedOut_of (v := .ref D) rfl]
  first
    | exact wpAny_pure (wpAny_pure h)
    | exact wpAny_pure h
    | exact wpAny_pure (wpAny_bind (wpAny_pure (wpAny_pure h)))
theorem exc_kit (T : L2.ExcC K D) : KitX K (.ref x) (.ref D) (fun h => ∃ ox od, InstAt h x ox D od) where
  ty := fun _ _ _ ⟨_, _, I⟩ => I.type
  it := fun _ h X _ => by
    obtain ⟨cd, hcd, _⟩ := any_some T.hd
    unfold clsIn at hcd
    split at hcd
    · rename_i q ho
      intro A' Q' E' s' k r
      unfold isType loadHead
      exact wpAny_bind (wpAny_loadPart (k _ _ (X _ _ ho)) (wpAny_pure r))
    · cases hcd
  ne := fun h tp dd its n sl X htp => by
    obtain ⟨cd, hcd, _⟩ := any_some T.hd
    cases q : (Value.ref D == Value.ref tp) with
    | false => rfl
    | true =>
      obtain rfl := Value.ref.inj (beq_iff_eq.mp q)
      unfold clsIn at hcd
      split at hcd
      · rename_i q2 ho
        have z := X _ _ ho
        rw [htp] at z
        cases z
      · cases hcd
  ca := fun X ⟨_, _, I⟩ k => exc_class T X I k
end
end Dl
namespace Dl
open PySem L2
section
variable {X : Cx} {pins : List (Addr × Obj)} {σ : St} {H : Hp} {s : Shared}
theorem exH_at {C a : Addr} {d : Option Addr} (I : Inv X pins σ H s) (ha : H a = some (exH C d a)) (hd : ∀ dd, d = some dd → ∃ fs, H dd = some (.xd fs)) : ∃ ox od, PySem.W.InstAt s.heap a ox C od := by
  have q : ObjOk X.prog X.w H s.heap a (.ext fun h => ∃ (oe : Obj) (vs : Array Value), h.get? a = some oe ∧ Zc (.ref C) d oe ∧ oe.data = .fields vs) := I.hok a _ ha
  obtain ⟨⟨oe, vs, e, z, hv⟩, _⟩ := q
  have nc : PySem.W.notCls oe = true := by unfold PySem.W.notCls; rw [hv] <;> rfl
  cases d with
  | none => exact ⟨oe, none, e, z.1, nc, by rw [z.2]; trivial⟩
  | some dd =>
    obtain ⟨fs, hdd⟩ := hd dd rfl
    have q2 : ObjOk X.prog X.w H s.heap dd (.xd fs) := I.hok dd _ hdd
    obtain ⟨mA, ⟨o2, es, ep, e2, _⟩, _⟩ := q2
    exact ⟨oe, some o2, e, z.1, nc, by rw [z.2]; exact e2⟩
def rIsX (K : PySem.W.Frag) : List V → Hp → VK → Prop := fun xs H Q => ∃ (a C : Addr) (d : Option Addr) (c : V) (cv : Value) (b : Bool), xs = [.ref a, c] ∧ H a = some (exH C d a) ∧ (∀ dd, d = some dd → ∃ fs, H dd = some (.xd fs)) ∧ ExcC K C ∧ (∀ u, RelV c u → u = cv) ∧ PySem.W.kitOne K (.ref C) cv = some b ∧ Q (.bl b) H
theorem call_isX : CallR X (.builtin "isinstance") (rIsX X.K) := by
  intro pins s σ H xs us Q I r h
  obtain ⟨a, C, d, c, cv, b, rfl, ha, hd, T, hcv, e, q⟩ := h
  cases r with
  | cons rx rr =>
    cases rr with
    | cons rt rr =>
      cases rr
      cases rx
      have ec := hcv _ rt
      subst ec
      exact PySem.W.kia_one (exc_kit T) I.kIn (exH_at I ha hd) e (fun z => nomatch z) fun tk => ⟨.bl b, H, I.kept (t' := tk) fun _ _ z => z, rfl, q⟩
end
structure ExAll (K : PySem.W.Frag) (mg : Str → Option Value) (cs ts : List Str) : Prop where
  cls : ∀ c ∈ cs, ExcC K (He.ga K c)
  own : ∀ c ∈ cs, ∀ t ∈ ts, PySem.W.kitOne K (.ref (He.ga K c)) (.ref (He.ga K t)) = some (c == t || t == "FourTestsError")
  ve : ∀ c ∈ cs, PySem.W.kitOne K (.ref (He.ga K c)) (.type "ValueError") = some true
  non : ∀ t ∈ ts, PySem.W.kitOne K (.type "NoneType") (.ref (He.ga K t)) = some false
  nve : PySem.W.kitOne K (.type "NoneType") (.type "ValueError") = some false
  glo : ∀ t ∈ ts, mg t = some (.ref (He.ga K t))
  fld : ∀ c ∈ cs, noFld c = true ∨ (XfC K (He.ga K c) ∧ PySem.W.findIn K (.ref (He.ga K c)) (fldN c) = some none)
def vIsX (cs : List Str) (f : Str → Bool) (a : DE) : DE := fun γ M R => a γ M fun d M1 => match d with
  | .exn c _ => c ∈ cs ∧ R (.bl (f c)) M1
  | .exn0 c => c ∈ cs ∧ R (.bl (f c)) M1
  | .non => R (.bl false) M1
  | _ => False
theorem e_vIsX (cs : List Str) (f : Str → Bool) (a : DE) (γ : Gm) (M : Mem) (R : DR) : vIsX cs f a γ M R = (a γ M fun d M1 => match d with
  | .exn c _ => c ∈ cs ∧ R (.bl (f c)) M1
  | .exn0 c => c ∈ cs ∧ R (.bl (f c)) M1
  | .non => R (.bl false) M1
  | _ => False) := propext Iff.rfl
def vFld (cs : List Str) (f : Str) (a : DE) : DE := fun γ M R => a γ M fun d M1 => match d with
  | .exn c v => c ∈ cs ∧ noFld c = false ∧ fldN c = f ∧ R v M1
  | _ => False
theorem e_vFld (cs : List Str) (f : Str) (a : DE) (γ : Gm) (M : Mem) (R : DR) : vFld cs f a γ M R = (a γ M fun d M1 => match d with
  | .exn c v => c ∈ cs ∧ noFld c = false ∧ fldN c = f ∧ R v M1
  | _ => False) := propext Iff.rfl
section
variable {X : Cx} {C : Addr} {o e : Expr} {vo : DE} {cs ts : List Str} {t x : Str} {p p2 pos : Pos}
theorem call_or {id : String} {r r' : List V → Hp → VK → Prop} (h : CallR X (.builtin id) r) (h' : CallR X (.builtin id) r') : CallR X (.builtin id) (fun xs H Q => r xs H Q ∨ r' xs H Q) := by
  intro pins s σ H xs us Q I rv hh
  rcases hh with hh | hh
  · exact h pins s σ H xs us Q I rv hh
  · exact h' pins s σ H xs us Q I rv hh
theorem q_isX (T : ExAll X.K X.mg cs ts) (ht : t ∈ ts) (ha : QE X C o vo) (hg : Gl X x) (hm : X.mg x = none) (hv : bootBuiltins x = some (.builtin "isinstance")) (hg2 : Gl X t := by rfl) (hn : x ≠ "__name__" := by decide) (hdb : (x == ("__debug__" : Str)) = false := by decide) (hdt : (t == ("__debug__" : Str)) = false := by decide)
    (he : starEach (o :: [.Name t p2]) X.env = (false, eval o X.env) :: starEach [.Name t p2] X.env := by rfl) (he2 : starEach [.Name t p2] X.env = (false, eval (.Name t p2) X.env) :: starEach [] X.env := by rfl) (hpl : (backTo pos (starEach [.Name t p2] X.env)).any (·.1) = false := by rfl) :
    QE X C (.Call (.Name x p) [o, .Name t p2] [] pos) (vIsX cs (fun c => c == t || t == "FourTestsError") vo) := by
  obtain ⟨to, po, so⟩ := ha.ex
  refine ⟨_, pe_callB (call_or call_isX call_isi) hg hm hv (pa_cons po (pa_cons (pe_glob (v := .ref (He.ga X.K t)) hg2 (T.glo t ht) rfl hdt) pa_nil he2) he) hn hdb he hpl, fun γ M R σ H Q re h k => ?_⟩
  refine (so γ M _ σ H _ re h fun d M1 x1 H1 o1 i1 e1 h1 => ?_)
  cases d with
  | exn c' v =>
    unfold Is at i1
    obtain ⟨a, dd, u, ex, ma, ha, md, hd, i⟩ := i1
    exact .inl ⟨a, _, some dd, .ref (He.ga X.K t), .ref (He.ga X.K t), _, by rw [ex], ha, fun d2 e2 => by cases e2; exact ⟨_, hd⟩, T.cls c' h1.1, fun u hu => hu, T.own c' h1.1 t ht, k _ M1 _ H1 o1 is_bl e1 h1.2⟩
  | exn0 c' =>
    unfold Is at i1
    obtain ⟨a, ex, ma, ha⟩ := i1
    exact .inl ⟨a, _, none, .ref (He.ga X.K t), .ref (He.ga X.K t), _, by rw [ex], ha, fun d2 e2 => (nomatch e2), T.cls c' h1.1, fun u hu => hu, T.own c' h1.1 t ht, k _ M1 _ H1 o1 is_bl e1 h1.2⟩
  | non =>
    unfold Is at i1
    exact .inr ⟨x1, .ref (He.ga X.K t), _, _, false, by rfl, .own _, by rw [i1]; exact .base .non, T.non t ht, k _ M1 _ H1 o1 is_bl e1 h1⟩
  | _ => exact False.elim h1
def tXfo (f : Str) (te : TE) (K : PySem.W.Frag) : TE := fun σ H Q => te σ H fun x1 H1 => ∃ (a c dd : Addr) (u : V), x1 = .ref a ∧ H1 a = some (exH c (some dd) a) ∧ H1 dd = some (.xd [(f, u)]) ∧ XfC K c ∧ PySem.W.findIn K (.ref c) f = some none ∧ Q u H1
theorem pe_xfo {te : TE} {f : Str} (he : PE X e te) (hb : attributeBase e f X.env (eval e X.env) = eval e X.env := by rfl) : PE X (.Attribute e f pos) (tXfo f te X.K) := by
  refine ⟨fun pins s σ H Q I h => attr_of hb (thn (he.run pins s σ H _ I h) fun u s1 ⟨x1, H1, I1, rx, a, c, dd, v, ex, ha, hd, T, hno, q⟩ => ?_)⟩
  subst ex
  obtain rfl : u = Value.ref a := rx
  have q1 : ObjOk X.prog X.w H1 s1.heap a (.ext fun h => ∃ (oe : Obj) (vs : Array Value), h.get? a = some oe ∧ Zc (.ref c) (some dd) oe ∧ oe.data = .fields vs) := I1.hok a _ ha
  obtain ⟨⟨oe, vs, eo, z, hv⟩, _⟩ := q1
  have q2 : ObjOk X.prog X.w H1 s1.heap dd (.xd [(f, v)]) := I1.hok dd _ hd
  obtain ⟨mA, hns, hr⟩ := q2
  obtain ⟨od, ho, hl⟩ := lookIn_ns hns
  have lk : List.lookup f [(f, v)] = some v := by rw [List.lookup_cons, beq_self_eq_true]
  obtain ⟨u, hu, ru⟩ := RelO.some_of (v := v) (o := mA f) (by rw [← lk]; exact hr f)
  have J : PySem.W.InstAt s1.heap a oe c (some od) := ⟨eo, z.1, by unfold PySem.W.notCls; rw [hv] <;> rfl, by rw [z.2]; exact ho⟩
  exact HandSPX.exc_get I1.kIn J T.ga T.gg T.exC (PySem.W.findObj_own T.hdC hno rfl (by rw [hl, hu])) (handed_of ru) ⟨v, H1, I1.tok _, ru, q⟩
theorem q_fld {f : Str} (T : ExAll X.K X.mg cs ts) (ho : QE X C o vo) (hb : attributeBase o f X.env (eval o X.env) = eval o X.env := by rfl) : QE X C (.Attribute o f pos) (vFld cs f vo) := by
  obtain ⟨to, po, so⟩ := ho.ex
  refine ⟨_, pe_xfo po hb, fun γ M R σ H Q re h k => so γ M _ σ H _ re h fun d M1 x1 H1 o1 i1 e1 h1 => ?_⟩
  cases d with
  | exn c v =>
    obtain ⟨hc, hn, hf, hr⟩ := h1
    unfold Is at i1
    obtain ⟨a, dd, u, ex, ma, ha, md, hd, i⟩ := i1
    rcases T.fld c hc with z | ⟨z1, z2⟩
    · rw [hn] at z; cases z
    · subst hf
      exact ⟨a, _, dd, u, ex, ha, hd, z1, z2, k _ M1 _ H1 o1 i e1 hr⟩
  | _ => exact False.elim h1
end
end Dl
namespace Dl
open PySem L2
structure DefE where
  cls : Str
  qual : Str
  params : Arguments
  body : List Stmt
  scope : Scope
def iA (K : PySem.W.Frag) (c : Str) : Addr := He.ma K (He.ga K c) "__init__"
def fnE (K : PySem.W.Frag) (a : Addr) : He.FnW := match K.lookup a with
  | some ⟨_, _, .func fd, _⟩ => some (fd.name, fd.qualname, fd.params, fd.body, fd.scope, fd.globals, [], fd.builtins)
  | _ => none
def DefE.val (d : DefE) : He.FnW := some ("__init__", d.qual, d.params, .stmts d.body, d.scope, mainGlobals, [], builtinsNs)
def oexB (K : PySem.W.Frag) (C : Addr) : Bool := (match K.lookup C with
  | some ⟨.type "type", _, .cls cd, sl⟩ => (match cd.mro, sl.toList with
    | .ref C' :: bm, [_, _, _, _, some (.builtin n), _] => C' == C && (n == "ValueError.__new__" && (!cd.hasDel && (cd.hasDict && HandSPX.refsVE bm)))
    | _, _ => false)
  | _ => false) && (He.eqO (PySem.W.findIn K (.ref C) "__setattr__") (some (some (.builtin "object.__setattr__"))) && (decide (PySem.W.subIn K (.ref C) (.type "BaseException") = some true) && (decide (PySem.W.typeIn K (.ref C) = some (.type "type")) && PySem.W.keepIn K (.ref C))))
theorem oexB_ok {K : PySem.W.Frag} {C : Addr} (h : oexB K C = true) : OexC K C := by
  obtain ⟨q, h⟩ := He.ba h
  obtain ⟨h2, h⟩ := He.ba h
  obtain ⟨h3, h⟩ := He.ba h
  obtain ⟨h4, h5⟩ := He.ba h
  refine ⟨?_, He.eqO_ok h2, of_decide_eq_true h3, of_decide_eq_true h4, h5⟩
  split at q
  · rename_i dd cd sl ho
    split at q
    · rename_i C' bm k0 k1 k2 k3 n k5 hm hs
      obtain ⟨a1, q⟩ := He.ba q
      obtain ⟨a2, q⟩ := He.ba q
      obtain ⟨a3, q⟩ := He.ba q
      obtain ⟨a4, a5⟩ := He.ba q
      have e1 := beq_iff_eq.mp a1
      have e2 := beq_iff_eq.mp a2
      subst e1 e2
      have a3' : cd.hasDel = false := by cases z : cd.hasDel with
        | false => rfl
        | true => rw [z] at a3; cases a3
      obtain ⟨nm, bs, mro, ns, qn, hd, sn, sub, ab, col, del⟩ := cd
      dsimp only at hm a3' a4
      subst hm a3' a4
      have hsl : sl = #[k0, k1, k2, k3, some (.builtin "ValueError.__new__"), k5] := by
        obtain ⟨l⟩ := sl
        simp only at hs
        rw [hs]
      subst hsl
      exact ⟨nm, qn, ns, bs, bm, sn, sub, ab, col, dd, k0, k1, k2, k3, k5, ho, a5⟩
    · cases q
  · cases q
def cellB (K : PySem.W.Frag) (C : Addr) : List (Str × Addr) → Bool
  | [(x, cc)] => decide (x = "__class__") && (match K.lookup cc with
    | some ⟨_, _, .cell (some (.ref D)), _⟩ => D == C
    | _ => false)
  | _ => false
def codeB (K : PySem.W.Frag) (file q : Str) : Value → Bool
  | .ref cda => PySem.W.codeIn K (.ref cda) q && (match K.lookup cda with
    | some ⟨_, _, .fields vs, _⟩ => (match vs[2]? with
      | some (Value.str f _) => decide (f = file)
      | _ => false)
    | _ => false)
  | _ => false
def fieldB (K : PySem.W.Frag) (c : Str) : Bool := He.eqO (PySem.W.findIn K (.ref (He.ga K c)) (fldN c)) (some none)
def oneB (K : PySem.W.Frag) (T : Addr) : Bool := match K.lookup T with
  | some ⟨_, _, .seq its _, _⟩ => its.toList.length == 1
  | _ => false
theorem oneB_ok {K : PySem.W.Frag} {T : Addr} (h : oneB K T = true) : ∃ (o : Obj) (v : Value) (n : Nat), K.lookup T = some o ∧ o.data = .seq [v].toArray n := by
  unfold oneB at h
  split at h
  · rename_i c d its n sl lk
    have e := beq_iff_eq.mp h
    obtain ⟨l⟩ := its
    match l, e, lk with
    | [v], _, lk => exact ⟨_, v, n, lk, rfl⟩
  · cases h
def DefE.ok (file : Str) (K : PySem.W.Frag) (d : DefE) : Bool := (match K.lookup (iA K d.cls) with
  | some ⟨_, _, .func fd, _⟩ => codeB K file d.qual fd.code && (cellB K (He.ga K d.cls) fd.closure && ((match fd.defaults with
    | .ref T => oneB K T
    | _ => false) && decide (fd.kwdefaults = .none)))
  | _ => false) && (oexB K (He.ga K d.cls) && (decide (PySem.W.mroIn K (He.ga K d.cls) (.ref (He.ga K d.cls)) = some true) && (decide (PySem.W.subIn K (.ref (He.ga K d.cls)) (.type "ValueError") = some true) && ((match PySem.W.clsIn K (He.ga K d.cls) with
    | some cd => He.eqO (PySem.W.alongIn K "__init__" ((cd.mro.dropWhile (· != .ref (He.ga K d.cls))).drop 1)) (some (some (.builtin "ValueError.__init__")))
    | none => false) && (He.eqO (PySem.W.nsIn K cStatics "thirdparty.any") (some none) && (fieldB K d.cls && (He.eqO (PySem.W.findIn K (.ref (He.ga K d.cls)) "__init__") (some (some (.ref (iA K d.cls)))) && (decide (PySem.W.typeIn K (.ref (iA K d.cls)) = some (.type "function")) &&
      (decide (PySem.W.exmOne K (.ref (He.ga K d.cls)) (.ref (He.ga K "FourTestsError")) = some true) && (!noFld d.cls && PySem.W.keepIn K (.ref (iA K d.cls))))))))))))
structure TxE (d : DefE) : Prop where
  body_ : ∃ p0 p1 p2 p3 p4 p5 p6 p7 p8 p9, d.body = [.Expr (.Call (.Attribute (.Call (.Name "super" p0) [] [] p1) "__init__" p2) [.Name (fldN d.cls) p3] [] p4) p5, .Assign [.Attribute (.Name "self" p6) (fldN d.cls) p7] (.Name (fldN d.cls) p8) p9] ∧
    ∀ env : Env, ∃ pl : Sem Bool, eval (.Call (.Attribute (.Call (.Name "super" p0) [] [] p1) "__init__" p2) [.Name (fldN d.cls) p3] [] p4) env = (do
      let ov ← attributeBase (.Call (.Name "super" p0) [] [] p1) "__init__" env (eval (.Call (.Name "super" p0) [] [] p1) env)
      standAt p2.atName
      let (g, first) ← holding [ov] (getMethod ov "__init__" pl)
      callWith p4 g first (backTo p4 (starEach [.Name (fldN d.cls) p3] env)) [])
  head : (d.params.posonlyargs ++ d.params.args).head?.map (·.arg) = some ("self" : Str)
  sc1 : d.scope.names.lookup ("self" : Str) = some NameKind.local
  sc2 : d.scope.names.lookup (fldN d.cls) = some NameKind.local
  sc3 : d.scope.names.lookup ("super" : Str) = some NameKind.globalImplicit
  sc4 : d.scope.names.lookup ("__class__" : Str) = some NameKind.free
  cell : ∀ x ∈ d.scope.names, x.2 ≠ .cell
  flags : d.scope.isCoroutine = false ∧ d.scope.isGenerator = false ∧ d.scope.kind = .function
  names : (fldN d.cls == ("self" : Str)) = false ∧ (fldN d.cls == ("__debug__" : Str)) = false ∧ (fldN d.cls == ("__classdict__" : Str)) = false
  binds : ∀ (T : Addr) (doc pm : Value) (an : Option Addr) (cdv ct : Value) (cc : Addr) (us : List Value) (v : Value), us.length = 2 → ∃ k, bindArgs (PySem.W.ksFn "__init__" d.qual d.params d.body d.scope (.ref T) .none doc pm an cdv ct cc) ⟨us, []⟩ = seqItems? (.ref T) >>= k ∧ k (some [v].toArray) = pure ((["self", fldN d.cls] : List Str).zip us)
theorem exk_of {P : Program} {w : World} {K : PySem.W.Frag} {mg : Str → Option Value} {base : Heap} {d : DefE} {file : Str} (hfile : P.main.file = file) (htop : (P.main.scope.names.lookup ("super" : Str)).isSome = false) (hsup : mg "super" = none) (hc : mg d.cls = some (.ref (He.ga K d.cls))) (T : TxE d) (e : fnE K (iA K d.cls) = d.val) (h : d.ok file K = true) : ExK P w K mg base 1 d.cls := by
  unfold DefE.ok at h
  obtain ⟨q, h⟩ := He.ba h
  obtain ⟨h1, h⟩ := He.ba h
  obtain ⟨h2, h⟩ := He.ba h
  obtain ⟨h3, h⟩ := He.ba h
  obtain ⟨h4, h⟩ := He.ba h
  obtain ⟨h5, h⟩ := He.ba h
  obtain ⟨h6, h⟩ := He.ba h
  obtain ⟨h7, h⟩ := He.ba h
  obtain ⟨h8, h⟩ := He.ba h
  obtain ⟨h9, h⟩ := He.ba h
  obtain ⟨h10, h11⟩ := He.ba h
  unfold fnE at e
  split at q
  · rename_i oc od fd osl lk
    rw [lk] at e
    obtain ⟨n1, n2, n3, n4, n5, n6, n7, n8, n9, n10, n11, n12, n13, n14, n15⟩ := fd
    have e2 : (some (n1, n2, n3, n4, n5, n6, ([] : List (Str × Addr)), n15) : He.FnW) = (some (("__init__" : Str), d.qual, d.params, FuncBody.stmts d.body, d.scope, mainGlobals, ([] : List (Str × Addr)), builtinsNs) : He.FnW) := e
    simp only [Option.some.injEq, Prod.mk.injEq, true_and] at e2
    obtain ⟨g1, g2, g3, g4, g5, g6, g7⟩ := e2
    subst g1 g2 g3 g4 g5 g6 g7
    obtain ⟨c1, q⟩ := He.ba q
    obtain ⟨c2, q⟩ := He.ba q
    obtain ⟨c3, c4⟩ := He.ba q
    have c4' : n9 = .none := of_decide_eq_true c4
    subst c4'
    have c2' : cellB K (He.ga K d.cls) n7 = true := c2
    have c1' : codeB K file d.qual n13 = true := c1
    match n7, c2', lk with
    | [(x, cc)], c2', lk =>
      obtain ⟨x1, x2⟩ := He.ba c2'
      have ex := of_decide_eq_true x1
      subst ex
      match n13, c1', lk with
      | .ref cda, c1', lk =>
        obtain ⟨y1, y2⟩ := He.ba c1'
        match n8, c3, lk with
        | .ref TT, c3, lk =>
          split at x2
          · rename_i c5 d5 D s5 lcc
            have eD := beq_iff_eq.mp x2
            subst eD
            split at y2
            · rename_i c6 d6 vs s6 lcd
              split at y2
              · rename_i fl tf hv
                have ef := of_decide_eq_true y2
                obtain ⟨oT, v, nT, lT, dT⟩ := oneB_ok c3
                refine ⟨iA K d.cls, _, ["self", fldN d.cls], hc, oexB_ok h1, He.eqO_ok h7, of_decide_eq_true h8, fn_exinit ⟨⟨oc, od, _, _, n10, n11, n12, n14, cda, cc, osl, lk, y1, ⟨c6, d6, vs, s6, tf, lcd, ?_⟩, ⟨c5, d5, s5, lcc⟩⟩, htop, hsup, oexB_ok h1, of_decide_eq_true h2, of_decide_eq_true h3, ?_, He.eqO_ok h5, He.eqO_ok h6, T.body_, T.head, T.sc1, T.sc2, T.sc3, T.sc4, T.cell, T.flags, T.names⟩ ⟨_, _, _, lk⟩,
                  (fun s us Xs hl => by
                    rw [List.append_nil] at hl ⊢
                    obtain ⟨k, e1, e2⟩ := T.binds TT n10 n11 n12 (.ref cda) n14 cc us v hl
                    refine BindsTo.of_looks fun M => ?_
                    have e1' := e1
                    rw [show ∀ z : FuncData, (bindArgs z ⟨us, []⟩ = seqItems? (.ref TT) >>= k) = (bindArgs z ⟨us, []⟩ = seqItems? (.ref TT) >>= k) from fun _ => rfl] at e1'
                    exact e1' ▸ looks_items Xs lT dT (.of_pure e2)), of_decide_eq_true h9, by cases z : noFld d.cls with | false => rfl | true => rw [z] at h10; cases h10⟩
                · rw [hfile, ← ef]; exact hv
                · split at h4
                  · rename_i cd hcd
                    exact ⟨cd, hcd, He.eqO_ok h4⟩
                  · cases h4
              · cases y2
            · cases y2
          · cases x2
  · cases q
def excB (K : PySem.W.Frag) (D : Addr) : Bool := He.eqO (PySem.W.findIn K (.ref D) "__getattribute__") (some (some (.builtin "BaseException.__getattribute__"))) && (He.eqO (PySem.W.findIn K (.ref D) "__getattr__") (some none) && (decide (PySem.W.subIn K (.ref D) (.type "BaseException") = some true) && (PySem.W.hasDictIn K D && (He.eqO (PySem.W.findIn K (.ref D) "__class__") (some (some (.builtin "object.__class__"))) &&
  (He.eqO (PySem.W.specialIn K (.builtin "object.__class__") "__get__") (some (some (.builtin "getset_descriptor.__get__"))) && (decide (PySem.W.takesIn K (.builtin "object.__class__") = some true) && decide (PySem.W.mroIn K D (.type "object") = some true)))))))
theorem excB_ok {K : PySem.W.Frag} {D : Addr} (h : excB K D = true) : ExcC K D := by
  obtain ⟨h1, h⟩ := He.ba h
  obtain ⟨h2, h⟩ := He.ba h
  obtain ⟨h3, h⟩ := He.ba h
  obtain ⟨h4, h⟩ := He.ba h
  obtain ⟨h5, h⟩ := He.ba h
  obtain ⟨h6, h⟩ := He.ba h
  obtain ⟨h7, h8⟩ := He.ba h
  exact ⟨He.eqO_ok h1, He.eqO_ok h2, of_decide_eq_true h3, h4, He.eqO_ok h5, He.eqO_ok h6, of_decide_eq_true h7, of_decide_eq_true h8⟩
def exAllB (K : PySem.W.Frag) (cs ts : List Str) : Bool := (cs.all fun c => excB K (He.ga K c) && ((ts.all fun t => decide (PySem.W.kitOne K (.ref (He.ga K c)) (.ref (He.ga K t)) = some (c == t || t == "FourTestsError"))) && (decide (PySem.W.kitOne K (.ref (He.ga K c)) (.type "ValueError") = some true) && (noFld c || (xfB K (He.ga K c) && fieldB K c))))) &&
  ((ts.all fun t => decide (PySem.W.kitOne K (.type "NoneType") (.ref (He.ga K t)) = some false)) && decide (PySem.W.kitOne K (.type "NoneType") (.type "ValueError") = some false))
theorem exAllB_ok {K : PySem.W.Frag} {mg : Str → Option Value} {cs ts : List Str} (g : ∀ t ∈ ts, mg t = some (.ref (He.ga K t))) (h : exAllB K cs ts = true) : ExAll K mg cs ts := by
  obtain ⟨h1, h⟩ := He.ba h
  obtain ⟨h2, h3⟩ := He.ba h
  have a : ∀ c ∈ cs, _ := fun c hc => List.all_eq_true.mp h1 c hc
  refine ⟨fun c hc => excB_ok (He.ba (a c hc)).1, fun c hc t ht => ?_, fun c hc => ?_, fun t ht => of_decide_eq_true (List.all_eq_true.mp h2 t ht), of_decide_eq_true h3, g, fun c hc => ?_⟩
  · exact of_decide_eq_true (List.all_eq_true.mp (He.ba (He.ba (a c hc)).2).1 t ht)
  · exact of_decide_eq_true (He.ba (He.ba (He.ba (a c hc)).2).2).1
  · have z := (He.ba (He.ba (He.ba (a c hc)).2).2).2
    rcases Bool.or_eq_true_iff.mp z with z | z
    · exact .inl z
    · exact .inr ⟨xfB_ok (He.ba z).1, He.eqO_ok (He.ba z).2⟩
abbrev AlE : Type := He.AlD × List He.FnW
def ob4 (as : List Addr) (ex : PySem.W.Frag → Bool) (fa : List He.Fa) (fn : List He5.DefA) (file : Str) (es : List DefE) (g : Addr → Option Obj) : AlE := (ob2 (fun K => ex K && es.all fun d => d.ok file K) fa fn (He.frG g as), es.map fun d => fnE (He.frG g as) (iA (He.frG g as) d.cls))
def Says4 (ex : PySem.W.Frag → Bool) (fa : List He.Fa) (fn : List He5.DefA) (file : Str) (es : List DefE) (K : PySem.W.Frag) : Prop := Says2 (fun K => ex K && es.all fun d => d.ok file K) fa fn K ∧ es.map (fun d => fnE K (iA K d.cls)) = es.map DefE.val
def hook4 (as : List Addr) (ex : PySem.W.Frag → Bool) (fa : List He.Fa) (fn : List He5.DefA) (file : Str) (es : List DefE) : PySem.W.Hook where
  α := AlE
  obs := fun s => ob4 as ex fa fn file es s.heap.get?
  val := fun _ => (He5.valA fn, es.map DefE.val)
  says := fun _ h => ∃ K : PySem.W.Frag, K.In h ∧ Says4 ex fa fn file es K
  of := fun _ _ e => ⟨_, He.frG_in, congrArg (fun z : AlE => z.1) e, congrArg (fun z : AlE => z.2) e⟩
  keeps := fun _ _ _ z k => let ⟨K, hK, c⟩ := z; ⟨K, PySem.W.Frag.In.keeps hK k, c⟩
theorem ob4_eq {as : List Addr} {ex : PySem.W.Frag → Bool} {fa : List He.Fa} {fn : List He5.DefA} {file : Str} {es : List DefE} {g : Addr → Option Obj} {s : Shared} (h : ∀ a, g a = s.heap.get? a) : ob4 as ex fa fn file es g = (hook4 as ex fa fn file es).obs s := by
  have e : g = s.heap.get? := funext h
  rw [e] <;> rfl
theorem Says4.exc {ex : PySem.W.Frag → Bool} {fa : List He.Fa} {fn : List He5.DefA} {file : Str} {es : List DefE} {K : PySem.W.Frag} (c : Says4 ex fa fn file es K) (i : Nat) {d : DefE} (h : es[i]? = some d := by rfl) : fnE K (iA K d.cls) = d.val ∧ d.ok file K = true := by
  have e := congrArg (fun l => l[i]?) c.2
  simp only [List.getElem?_map, h, Option.map_some, Option.some.injEq] at e
  exact ⟨e, List.all_eq_true.mp (He.ba c.1.both.2).2 d (List.mem_of_getElem? h)⟩
end Dl
namespace Dl
open PySem L2
section
variable {P : Program} {w : World} {K : PySem.W.Frag} {mg : Str → Option Value} {base : Heap} {C : Addr} {k n : Nat} {S : DSp} {Sx : DSx} {x qual : Str} {params : Arguments} {body : List Stmt} {scope : Scope} {dvs : List V} {kws : List (Str × V)} {f : Addr} {fd : FuncData} {ps : List Str}
theorem callx_all (G : mg x = some (.ref f)) (F : FunD K x qual params body scope [] kws f fd) (ok : FnOk P w K mg base (CXp P w) k f fd ps (spU ⟨K, C⟩ n S Sx))
    (h : ∀ (kV doc pm : Value) (an : Option Addr) (cdv ct : Value) (us : List Value), us.length = ps.length → bindArgs (PySem.W.fnOf x qual params body scope .none kV doc pm an cdv ct) ⟨us, []⟩ = pure (ps.zip us)) : CallX P w K mg base C k x n S Sx [] :=
  ⟨f, fd, ps, [], [], G, F.kp, ok, F.bindsN h, .nil, rfl⟩
theorem callx_kw (np : Nat) (ks : List Str) (ix : List Nat) (G : mg x = some (.ref f)) (F : FunD K x qual params body scope [] kws f fd) (ok : FnOk P w K mg base (CXp P w) k f fd ps (spU ⟨K, C⟩ n S Sx))
    (h : ∀ (kV doc pm : Value) (an : Option Addr) (cdv ct : Value) (us ws : List Value), us.length = np → ws.length = ks.length → bindArgs (PySem.W.fnOf x qual params body scope .none kV doc pm an cdv ct) ⟨us, ks.zip ws⟩ = pure (ps.zip (pickL ix us ws))) : KCallX P w K mg base C k x n S Sx np ks (pickL ix) := by
  obtain ⟨oc, od, dV, kV, doc, pm, an, cdv, ct, osl, e, lk, hcd, hD, hK⟩ := F.ex
  rcases hD with ⟨_, e2⟩ | ⟨z, _⟩
  · subst e; subst e2
    exact ⟨f, _, ps, pickL ix, pickL ix, G, F.kp, ok, ⟨fun s us ws _ l1 l2 => .of_eq (h kV doc pm an cdv ct us ws l1 l2), fun r s => pick_vals r s ix⟩, fun M H ds zs vs us r s => pick_isL r s ix⟩
  · exact absurd rfl z
end
theorem e_vL (v : DE) (γ : Gm) (M : Mem) (R : DR) (Xd : DX) : vL v γ M R Xd = v γ M R := propext Iff.rfl
theorem e_tL (v : DT) (γ : Gm) (M : Mem) (R : Bool → Mem → Prop) (Xd : DX) : tL v γ M R Xd = v γ M R := propext Iff.rfl
theorem e_aL (v : DA) (γ : Gm) (M : Mem) (R : List D → Mem → Prop) (Xd : DX) : aL v γ M R Xd = v γ M R := propext Iff.rfl
theorem e_vCallX (n : Nat) (S : DSp) (Sx : DSx) (dd : List D) (a : DAX) (γ : Gm) (M : Mem) (R : DR) (Xd : DX) : vCallX n S Sx dd a γ M R Xd = (a γ M (fun ds M1 => (ds ++ dd).length = n ∧ (S (ds ++ dd) M1 R noX ∨ Sx (ds ++ dd) M1 Xd)) Xd) := propext Iff.rfl
theorem e_vCallKX (n np nk : Nat) (S : DSp) (Sx : DSx) (pick : List D → List D → List D) (a kw : DAX) (γ : Gm) (M : Mem) (R : DR) (Xd : DX) : vCallKX n np nk S Sx pick a kw γ M R Xd = (a γ M (fun ds M1 => kw γ M1 (fun zs M2 => ds.length = np ∧ zs.length = nk ∧ (pick ds zs).length = n ∧ (S (pick ds zs) M2 R noX ∨ Sx (pick ds zs) M2 Xd)) Xd) Xd) := propext Iff.rfl
theorem e_vDropX (a : DEX) (Ed : DEnds) (γ : Gm) (M : Mem) : vDropX a Ed γ M = (a γ M (fun _ M1 => Ed.nx γ M1) (Ed.xx γ)) := propext Iff.rfl
theorem e_vAsgX (a : DEX) (g : DG) (Ed : DEnds) (γ : Gm) (M : Mem) : vAsgX a g Ed γ M = (a γ M (fun d M1 => g d γ M1 Ed.nx) (Ed.xx γ)) := propext Iff.rfl
theorem e_vIfX (c : DTX) (a b : DS) (Ed : DEnds) (γ : Gm) (M : Mem) : vIfX c a b Ed γ M = (c γ M (fun k M1 => (k = true → a Ed γ M1) ∧ (k = false → b Ed γ M1)) (Ed.xx γ)) := propext Iff.rfl
theorem e_vBX (v : DEX) (γ : Gm) (M : Mem) (R : Bool → Mem → Prop) (Xd : DX) : vBX v γ M R Xd = (v γ M (fun d M1 => match d with
  | .bl b => R b M1
  | _ => False) Xd) := propext Iff.rfl
theorem e_vIsNX (f : Bool → Bool) (a : DEX) (γ : Gm) (M : Mem) (R : DR) (Xd : DX) : vIsNX f a γ M R Xd = (a γ M (fun d M1 => R (.bl (f (isNon d))) M1) Xd) := propext Iff.rfl
theorem e_vRaise (c : Str) (a : DA) (Ed : DEnds) (γ : Gm) (M : Mem) : vRaise c a Ed γ M = (a γ M fun ds M1 => match ds with
  | [d] => Ed.xx γ ⟨c, d⟩ M1
  | _ => False) := propext Iff.rfl
theorem e_vTry (i j : Nat) (b : DS) (Ed : DEnds) (γ : Gm) (M : Mem) : vTry i j b Ed γ M = b { Ed with xx := fun γ' xd M' => Ed.nx (gset (gset (gset γ' i (some (xdD xd))) j (some (xdD xd))) i none) M' } γ M := propext Iff.rfl
theorem e_xxx (M : Mem) (Xd : DX) (γ : Gm) (xd : XD) (M' : Mem) : (xEnds M Xd).xx γ xd M' = finX M Xd xd M' := propext Iff.rfl
theorem e_xnx (M : Mem) (Xd : DX) (γ : Gm) (M' : Mem) : (xEnds M Xd).nx γ M' = False := propext Iff.rfl
theorem e_xrt (M : Mem) (Xd : DX) (d : D) (M' : Mem) : (xEnds M Xd).rt d M' = False := propext Iff.rfl
theorem f_nEx {c : Str} {v : D} : isNon (.exn c v) = false := id rfl
theorem f_nE0 {c : Str} : isNon (.exn0 c) = false := id rfl
theorem f_tyD {ks : List Key} {ds : List D} : tyD (.dct ks ds) = some .dct := id rfl
theorem f_nD {ks : List Key} {ds : List D} : isNon (.dct ks ds) = false := id rfl
theorem f_wD {ks : List Key} {ds : List D} : isIntD (.dct ks ds) = false := id rfl
theorem f_wLn {t p o : Int} : isIntD (.ln t p o) = false := id rfl
def unrollL (g : DG) (b : DS) (Ed : DEnds) : List D → Gm → Mem → Prop
  | [], γ, M => Ed.nx γ M
  | d :: ds, γ, M => g d γ M fun γ2 M2 => b { Ed with nx := unrollL g b Ed ds, ct := unrollL g b Ed ds, bk := Ed.nx } γ2 M2
theorem unrollL_nil (g : DG) (b : DS) (Ed : DEnds) (γ : Gm) (M : Mem) : unrollL g b Ed [] γ M = Ed.nx γ M := by rw [unrollL]
theorem unrollL_cons (g : DG) (b : DS) (Ed : DEnds) (d : D) (ds : List D) (γ : Gm) (M : Mem) : unrollL g b Ed (d :: ds) γ M = g d γ M fun γ2 M2 => b { Ed with nx := unrollL g b Ed ds, ct := unrollL g b Ed ds, bk := Ed.nx } γ2 M2 := by rw [unrollL]
theorem vfor_unroll {ve : DE} {g : DG} {b : DS} {Ed : DEnds} {γ : Gm} {M M1 : Mem} (ds : List D) (hve : ∀ F : DR, F (.lst ds) M1 → ve γ M F) (h : unrollL g b Ed ds γ M1) : vFor (wList ve) g b Ed γ M := by
  refine hve _ ⟨fun i γ' M' => unrollL g b Ed (ds.drop i) γ' M', h, fun _ _ _ _ => rfl, fun i d γ' M' hw hd => ?_, fun γ' M' hw => ?_⟩
  · have hd' : ds[i]? = some d := hd
    have hi : i < ds.length := (List.getElem?_eq_some_iff.mp hd').1
    have e : ds.drop i = d :: ds.drop (i + 1) := by
      rw [List.drop_eq_getElem_cons hi]
      rw [(List.getElem?_eq_some_iff.mp hd').2]
    have hw' : unrollL g b Ed (ds.drop i) γ' M' := hw
    rw [e, unrollL_cons] at hw'
    exact hw'
  · have e : ds.drop ds.length = [] := List.drop_length
    have hw' : unrollL g b Ed (ds.drop ds.length) γ' M' := hw
    rw [e, unrollL_nil] at hw'
    exact hw'
section
variable {X : Cx} {C : Addr} {e : Expr} {x : Str} {p pos : Pos}
def subO (T : Ty) : Option Ty → Bool
  | some t => t.sub T
  | none => false
theorem f_subO (t T : Ty) : subO T (some t) = t.sub T := id rfl
theorem f_subN (T : Ty) : subO T none = false := id rfl
def vIsiL (T : Ty) (a : DE) : DE := fun γ M R => a γ M fun d M1 => tyL d = true ∧ R (.bl (subO T (tyD d))) M1
theorem e_vIsiL (T : Ty) (a : DE) (γ : Gm) (M : Mem) (R : DR) : vIsiL T a γ M R = (a γ M fun d M1 => tyL d = true ∧ R (.bl (subO T (tyD d))) M1) := propext Iff.rfl
theorem f_tyLn {t p o : Int} : tyD (.ln t p o) = none := id rfl
theorem l_non : isLn .non = false := id rfl
theorem l_bl {b : Bool} : isLn (.bl b) = false := id rfl
theorem l_int {i : Int} : isLn (.int i) = false := id rfl
theorem l_str {s : Str} : isLn (.str s) = false := id rfl
theorem l_tup {xs : List D} : isLn (.tup xs) = false := id rfl
theorem l_lst {xs : List D} : isLn (.lst xs) = false := id rfl
theorem l_scr {xs : List Int} : isLn (.scr xs) = false := id rfl
theorem l_own {a : Addr} : isLn (.own a) = false := id rfl
theorem l_dct {ks : List Key} {xs : List D} : isLn (.dct ks xs) = false := id rfl
theorem t_ln {t p o : Int} : tyL (.ln t p o) = true := id rfl
theorem t_non : tyL .non = true := id rfl
theorem t_bl {b : Bool} : tyL (.bl b) = true := id rfl
theorem t_int {i : Int} : tyL (.int i) = true := id rfl
theorem t_str {s : Str} : tyL (.str s) = true := id rfl
theorem t_tup {xs : List D} : tyL (.tup xs) = true := id rfl
theorem t_lst {xs : List D} : tyL (.lst xs) = true := id rfl
theorem t_own {a : Addr} : tyL (.own a) = false := id rfl
theorem t_dct {ks : List Key} {xs : List D} : tyL (.dct ks xs) = true := id rfl
theorem q_isiL (T : Ty) {y : Str} {v : DE} {p2 : Pos} (I : IsiF X.K X.mg C) (ha : QE X C e v) (hg : Gl X x) (hm : X.mg x = none) (hv : bootBuiltins x = some (.builtin "isinstance")) (hg2 : Gl X y) (hm2 : X.mg y = none) (hv2 : bootBuiltins y = some (.type T.nm)) (hn : x ≠ "__name__" := by decide) (hdb : (x == ("__debug__" : Str)) = false := by decide)
    (hn2 : y ≠ "__name__" := by decide) (hdb2 : (y == ("__debug__" : Str)) = false := by decide)
    (he : starEach (e :: [.Name y p2]) X.env = (false, eval e X.env) :: starEach [.Name y p2] X.env := by rfl) (he2 : starEach [.Name y p2] X.env = (false, eval (.Name y p2) X.env) :: starEach [] X.env := by rfl) (hpl : (backTo pos (starEach [.Name y p2] X.env)).any (·.1) = false := by rfl) : QE X C (.Call (.Name x p) [e, .Name y p2] [] pos) (vIsiL T v) := by
  obtain ⟨ta, pa, sa⟩ := ha.ex
  refine ⟨_, pe_callB call_isi hg hm hv (pa_cons pa (pa_cons (pe_bltn (v := .ty T.nm) hg2 hm2 hv2 rfl hn2 hdb2) pa_nil he2) he) hn hdb he hpl, fun γ M R σ H Q re h k => sa γ M _ σ H _ re h fun d M1 x1 H1 o1 i1 e1 h1 => ?_⟩
  obtain ⟨h0, h1⟩ := h1
  cases q : tyD d with
  | none =>
    cases d with
    | ln t q o =>
      have i2 := i1
      unfold Is at i2
      obtain ⟨a, dx, q2, ex, ma, hx, mq, hq⟩ := i2
      refine ⟨x1, .ty T.nm, .ref C, _, false, rfl, .ty _, ?_, I.no2 T, k _ M1 _ H1 o1 is_bl e1 h1⟩
      rw [ex]; exact .base (.ins hx I.cls I.attr I.get I.tak I.top)
    | scr _ => exact absurd h0 Bool.false_ne_true
    | own _ => exact absurd h0 Bool.false_ne_true
    | exn _ _ => exact absurd h0 Bool.false_ne_true
    | exn0 _ => exact absurd h0 Bool.false_ne_true
    | cls => exact absurd h0 Bool.false_ne_true
    | _ => cases q
  | some t =>
    rw [q] at h1
    exact ⟨x1, .ty T.nm, _, _, t.sub T, rfl, .ty _, tyD_ok o1 i1 q, kit_ty (kit_sub t T), k _ M1 _ H1 o1 is_bl e1 h1⟩
end
end Dl
namespace Dl
open PySem L2
section
variable {X : Cx} {C : Addr} {pos : Pos}
end
end Dl
namespace Dl
open PySem L2
section
variable {X : Cx} {C : Addr} {e : Expr} {ve : DE} {p pos : Pos}
end
end Dl
namespace Dl
open PySem L2
def oIsB (f : Bool → Bool) : DO := fun d e M R => match d, e with
  | .bl a, .bl true => R (.bl (f a)) M
  | _, _ => False
theorem f_isB {f : Bool → Bool} {a : Bool} {M : Mem} {R : DR} : oIsB f (.bl a) (.bl true) M R = R (.bl (f a)) M := rfl
section
variable {X : Cx} {C : Addr}
variable {a : Expr} {va : DE} {pos : Pos}
def vSlT (a : DE) (l h : DPt) : DE := fun γ M R => a γ M fun d M1 => l γ M1 fun lo M2 => h γ M2 fun hi M3 => isTup d = true ∧ match seqI M3 d with
  | some ds => (HT.sIx ds.length 0 lo == 0 && HT.sIx ds.length ds.length hi == ds.length) = false ∧ R (.tup (cutD ds lo hi)) M3
  | none => False
theorem e_vSlT (a : DE) (l h : DPt) (γ : Gm) (M : Mem) (R : DR) : vSlT a l h γ M R = (a γ M fun d M1 => l γ M1 fun lo M2 => h γ M2 fun hi M3 => isTup d = true ∧ match seqI M3 d with
  | some ds => (HT.sIx ds.length 0 lo == 0 && HT.sIx ds.length ds.length hi == ds.length) = false ∧ R (.tup (cutD ds lo hi)) M3
  | none => False) := propext Iff.rfl
theorem q_slT {lo hi : Option Expr} {vl vh : DPt} {p2} (ha : QE X C a va) (hl : QO X C lo vl) (hh : QO X C hi vh) : QE X C (.Subscript a (.Slice lo hi none p2) pos) (vSlT va vl vh) := by
  obtain ⟨ta, pa, sa⟩ := ha.ex
  obtain ⟨tl, pl, sl⟩ := hl.ex
  obtain ⟨th, ph, sh⟩ := hh.ex
  refine ⟨_, pe_slice sl_tup pa pl ph, fun γ M R σ H Q re h k => sa γ M _ σ H _ re h fun d M1 x H1 o1 i1 e1 h1 => sl γ M1 _ σ H1 _ (re.mk' e1 o1) h1 fun u M2 H2 o2 e2 h2 => sh γ M2 _ σ H2 _ (re.mk' (e1.trans e2) o2) h2 fun w M3 H3 o3 e3 h3 => ?_⟩
  obtain ⟨nt, h3⟩ := h3
  cases q : seqI M3 d with
  | none => rw [q] at h3; exact h3.elim
  | some ds =>
    rw [q] at h3
    obtain ⟨nw, h3⟩ := h3
    obtain ⟨p, xs, e4, l, s⟩ := seq_at o3 (Is.ext (e2.trans e3) d x i1) q
    rcases s with ⟨z, _⟩ | ⟨_, s⟩
    · rw [nt] at z; cases z
    · refine ⟨p, xs, e4, s, fun ⟨w1, w2⟩ => ?_, fun n hn => k _ M3 _ _ (o3.new hn) (new_tup o3 hn (isL_cut l u w)) (((e1.trans e2).trans e3).trans (Ext.new hn)) h3⟩
      rw [← l.len] at w1 w2
      rw [w1, w2] at nw
      simp at nw
variable {b : Expr} {rest : List Expr} {vb : DE}
end
theorem pk32 {α : Type} {a b c d e : α} : pickL [0, 1, 2, 3, 4] [a, b, c] [d, e] = [a, b, c, d, e] := rfl
theorem pk42 {α : Type} {a b c d e f : α} : pickL [0, 1, 2, 3, 4, 5] [a, b, c, d] [e, f] = [a, b, c, d, e, f] := rfl
theorem pk52 {α : Type} {a b c d e f g : α} : pickL [0, 1, 2, 3, 4, 5, 6] [a, b, c, d, e] [f, g] = [a, b, c, d, e, f, g] := rfl
section
variable {P : Program} {w : World} {K : PySem.W.Frag} {mg : Str → Option Value} {base : Heap} {x qual : Str} {params : Arguments} {body : List Stmt} {scope : Scope} {kws : List (Str × V)} {f : Addr} {fd : FuncData} {ps : List Str} {C : Addr} {k n : Nat} {S : DSp}
end
end Dl
namespace Dl
open PySem L2
def putD : Nat → D → List D → List D
  | _, d, [] => [d]
  | 0, d, _ :: r => d :: r
  | n + 1, d, x :: r => x :: putD n d r
theorem putD_nil {n : Nat} {d : D} : putD n d [] = [d] := by cases n <;> rfl
theorem putD_z {d x : D} {r : List D} : putD 0 d (x :: r) = d :: r := rfl
theorem putD_s {n : Nat} {d x : D} {r : List D} : putD (n + 1) d (x :: r) = x :: putD n d r := rfl
def fldD : D → Bool
  | .own _ => true
  | d => pureD d
def okF (M : Mem) : D → Prop
  | .own b => (M b).isSome = true
  | _ => True
structure OCls (K : PySem.W.Frag) (c : Str) : Prop where
  cls : Cls K (He.ga K c)
  no : ∀ f ∈ clsF c, NoAttr K (He.ga K c) f
  nd : (clsF c).Nodup
  few : (clsF c).length < 999
structure MOkO (P : Program) (w : World) (K : PySem.W.Frag) (mg : Str → Option Value) (base : Heap) (C : Addr) (k : Nat) (c m : Str) (n : Nat) (S : DSp) (dd : List D) : Prop where
  ex : ∃ (f : Addr) (fd : FuncData) (ps : List Str) (us : List Value) (dv : List V), OCls K c ∧ Meth K (He.ga K c) m f ∧ m ∉ clsF c ∧ FnOk P w K mg base CX0 k f fd ps (spD ⟨K, C⟩ n S) ∧ Binds K fd ps us ∧ Vals dv us ∧ constL dd = some dv
structure MkO (P : Program) (w : World) (K : PySem.W.Frag) (mg : Str → Option Value) (base : Heap) (C : Addr) (k : Nat) (c : Str) (n : Nat) (S : DSp) : Prop where
  ex : ∃ (f : Addr) (fd : FuncData) (ps : List Str), mg c = some (.ref (He.ga K c)) ∧ Mk K (He.ga K c) f ∧ FnOk P w K mg base CX0 k f fd ps (spD ⟨K, C⟩ n S) ∧ Binds K fd ps []
section
variable {X : Cx} {C : Addr} {j k n : Nat} {S : DSp} {dd : List D} {o e fe : Expr} {es : List Expr} {vo ve : DE} {va : DA} {c m f : Str} {pos apos : Pos} {i : Nat}
end
theorem okF_own {M : Mem} {b : Addr} : okF M (.own b) = ((M b).isSome = true) := id rfl
theorem okF_int {M : Mem} {i : Int} : okF M (.int i) = True := id rfl
theorem okF_bl {M : Mem} {i : Bool} : okF M (.bl i) = True := id rfl
theorem okF_non {M : Mem} : okF M .non = True := id rfl
theorem okF_tup {M : Mem} {i : List D} : okF M (.tup i) = True := id rfl
theorem okF_lst {M : Mem} {i : List D} : okF M (.lst i) = True := id rfl
theorem fldD_own {b : Addr} : fldD (.own b) = true := id rfl
theorem fldD_int {i : Int} : fldD (.int i) = true := id rfl
theorem fldD_bl {i : Bool} : fldD (.bl i) = true := id rfl
theorem fldD_tup {i : List D} : fldD (.tup i) = pureL i := id rfl
theorem fldD_lst {i : List D} : fldD (.lst i) = pureL i := id rfl
end Dl
namespace Dl
open PySem L2
section
variable {P : Program} {w : World} {K : PySem.W.Frag} {mg : Str → Option Value} {base : Heap} {C : Addr} {k n : Nat} {S : DSp} {c x qual : Str} {params : Arguments} {body : List Stmt} {scope : Scope} {dvs : List V} {kws : List (Str × V)} {f : Addr} {fd : FuncData} {ps : List Str}
end
end Dl
namespace Dl
open PySem L2
section
variable {X : Cx} {C : Addr} {o e : Expr} {vo ve : DE} {pos apos : Pos}
end
section
variable {X : Cx} {C : Addr} {pos : Pos}
def vDct0 : DE := fun _ M R => R (.dct [] []) M
theorem e_vDct0 (γ : Gm) (M : Mem) (R : DR) : vDct0 γ M R = R (.dct [] []) M := id rfl
theorem q_dct0 : QE X C (.Dict [] [] pos) vDct0 := ⟨_, pe_dnewK, fun γ M R σ H Q r h k p hp => by
  refine k _ M _ _ (r.ow.new hp) ?_ (Ext.new hp) h
  unfold Is
  exact ⟨p, [], rfl, r.ow.fresh hp, upd_same, rfl, IsL.nil⟩⟩
def keysOf : List D → Option (List Key × List D)
  | [] => some ([], [])
  | .int i :: d :: r => (match keysOf r with
    | some (ks, es) => some (.inl i :: ks, d :: es)
    | none => none)
  | .str x :: d :: r => (match keysOf r with
    | some (ks, es) => some (.inr x :: ks, d :: es)
    | none => none)
  | _ => none
def IsPs (G : Gx) (M : Mem) (H : Hp) : List D → List (V × V) → Prop
  | [], [] => True
  | k :: d :: r, (x, y) :: ps => Is G M H k x ∧ Is G M H d y ∧ IsPs G M H r ps
  | _, _ => False
structure QPs (X : Cx) (C : Addr) (pos : Pos) (keys : List (Option Expr)) (values : List Expr) (v : DA) : Prop where
  ex : ∃ trs, PPs X pos keys values trs ∧ ∀ (γ : Gm) (M : Mem) (F : List D → Mem → Prop) (σ : St) (H : Hp) (Q : List (V × V) → Hp → Prop), Rel ⟨X.K, C⟩ M γ σ H → v γ M F →
    (∀ ds M1 ps H1, Own ⟨X.K, C⟩ M1 H1 → IsPs ⟨X.K, C⟩ M1 H1 ds ps → Ext M M1 H H1 → F ds M1 → Q ps H1) → tPairs trs σ H Q
theorem IsPs.ext {G : Gx} {M M' : Mem} {H H' : Hp} (x : Ext M M' H H') : ∀ {ds : List D} {ps : List (V × V)}, IsPs G M H ds ps → IsPs G M' H' ds ps
  | [], [], _ => trivial
  | [], _ :: _, h => h.elim
  | [_], _, h => by
    cases ‹List (V × V)› <;> exact h.elim
  | _ :: _ :: _, [], h => h.elim
  | k :: d :: r, (a, b) :: ps, h => ⟨Is.ext x _ _ h.1, Is.ext x _ _ h.2.1, IsPs.ext x h.2.2⟩
def vPs (k v : DE) (r : DA) : DA := fun γ M F => k γ M fun x M1 => v γ M1 fun y M2 => r γ M2 fun ds M3 => F (x :: y :: ds) M3
theorem e_vPs (k v : DE) (r : DA) (γ : Gm) (M : Mem) (F : List D → Mem → Prop) : vPs k v r γ M F = (k γ M fun x M1 => v γ M1 fun y M2 => r γ M2 fun ds M3 => F (x :: y :: ds) M3) := id rfl
theorem qps_nil : QPs X C pos [] [] vNil := ⟨[], pps_nil, fun γ M F σ H Q r h k => k [] M [] H r.ow trivial Ext.refl h⟩
theorem qps_cons {k v : Expr} {ks : List (Option Expr)} {vs : List Expr} {vk vv : DE} {vr : DA} (hk : QE X C k vk) (hv : QE X C v vv) (hr : QPs X C pos ks vs vr) : QPs X C pos (some k :: ks) (v :: vs) (vPs vk vv vr) := by
  obtain ⟨tk, pk, sk⟩ := hk.ex
  obtain ⟨tv, pv, sv⟩ := hv.ex
  obtain ⟨trs, pr, sr⟩ := hr.ex
  refine ⟨_, pps_cons pk pv pr, fun γ M F σ H Q r h kk => sk γ M _ σ H _ r h fun x M1 a H1 o1 i1 e1 h1 => sv γ M1 _ σ H1 _ (r.mk' e1 o1) h1 fun y M2 b H2 o2 i2 e2 h2 => ?_⟩
  exact sr γ M2 _ σ H2 _ ((r.mk' e1 o1).mk' e2 o2) h2 fun ds M3 ps H3 o3 i3 e3 h3 => kk _ M3 _ H3 o3 (show IsPs _ _ _ (x :: y :: ds) ((a, b) :: ps) from ⟨Is.ext (e2.trans e3) _ _ i1, Is.ext e3 _ _ i2, i3⟩) ((e1.trans e2).trans e3) h3
theorem keys_is {G : Gx} {M : Mem} {H : Hp} : ∀ {ds : List D} {ps : List (V × V)} {ks : List Key} {es : List D}, keysOf ds = some (ks, es) → IsPs G M H ds ps → ks.length = es.length ∧ ∃ xs, IsL G M H es xs ∧ ps = (ks.zip xs).map fun kv => (kV kv.1, kv.2)
  | [], [], ks, es, h, _ => by
    unfold keysOf at h
    cases h
    exact ⟨rfl, [], IsL.nil, rfl⟩
  | [], _ :: _, _, _, _, i => i.elim
  | .int i :: d :: r, (x, y) :: ps, ks, es, h, is => by
    obtain ⟨i1, i2, i3⟩ := is
    unfold keysOf at h
    split at h
    · rename_i ks' es' e
      cases h
      obtain ⟨l, xs, hl, hp⟩ := keys_is e i3
      unfold Is at i1
      exact ⟨by simp [l], y :: xs, IsL.cons i2 hl, by rw [hp, i1]; rfl⟩
    · cases h
  | .str i :: d :: r, (x, y) :: ps, ks, es, h, is => by
    obtain ⟨i1, i2, i3⟩ := is
    unfold keysOf at h
    split at h
    · rename_i ks' es' e
      cases h
      obtain ⟨l, xs, hl, hp⟩ := keys_is e i3
      unfold Is at i1
      exact ⟨by simp [l], y :: xs, IsL.cons i2 hl, by rw [hp, i1]; rfl⟩
    · cases h
theorem putK_new {κ : Type} [DecidableEq κ] {acc : List (κ × V)} {k : κ} {v : V} (h : k ∉ acc.map (·.1)) : L2.putK acc k v = acc ++ [(k, v)] := by
  unfold L2.putK
  rw [if_neg]
  intro z
  obtain ⟨p, hp, e⟩ := List.any_eq_true.mp z
  exact h (List.mem_map.mpr ⟨p, hp, of_decide_eq_true e⟩)
theorem merge_new : ∀ (kvs acc : List (Key × V)), (acc ++ kvs).map (·.1) |>.Nodup → mergeK acc kvs = acc ++ kvs
  | [], acc, _ => by show acc = acc ++ []; rw [List.append_nil]
  | (k, v) :: r, acc, nd => by
    have hk : k ∉ acc.map (·.1) := by
      intro z
      rw [List.map_append, List.nodup_append] at nd
      exact nd.2.2 k z k (by simp) rfl
    show mergeK (L2.putK acc k v) r = _
    rw [putK_new hk, merge_new r (acc ++ [(k, v)]) (by rw [List.append_assoc]; exact nd), List.append_assoc]
    rfl
def vDct (v : DA) : DE := fun γ M R => ∀ p, M p = none → v γ (mset M p (.dct [] [])) fun ds M1 => ∃ ks es, keysOf ds = some (ks, es) ∧ ks.Nodup ∧ ks.length ≤ 15 ∧ pureL es = true ∧ M1 p = some (.dct [] []) ∧ R (.dct ks es) (mdel M1 p)
theorem e_vDct (v : DA) (γ : Gm) (M : Mem) (R : DR) : vDct v γ M R = (∀ p, M p = none → v γ (mset M p (.dct [] [])) fun ds M1 => ∃ ks es, keysOf ds = some (ks, es) ∧ ks.Nodup ∧ ks.length ≤ 15 ∧ pureL es = true ∧ M1 p = some (.dct [] []) ∧ R (.dct ks es) (mdel M1 p)) := id rfl
theorem q_dct {keys : List (Option Expr)} {values : List Expr} {v : DA} (h : QPs X C pos keys values v) (hall : keys.all (·.isSome) = true := by rfl) (hl : keys.length = values.length := by rfl) (h0 : keys ≠ [] := by exact fun z => by cases z) (h15 : keys.length ≤ 15 := by decide) : QE X C (.Dict keys values pos) (vDct v) := by
  obtain ⟨trs, pt, st⟩ := h.ex
  refine ⟨_, pe_disp pt hall hl h0 h15, fun γ M R σ H Q r hv k p hp => ?_⟩
  have mp := r.ow.fresh hp
  have e0 : Ext M (mset M p (.dct [] [])) H (upd H p (.dK [])) := Ext.newOwn hp
  have o0 : Own ⟨X.K, C⟩ (mset M p (.dct [] [])) (upd H p (.dK [])) := r.ow.setM e0 ⟨rfl, rfl, [], upd_same, IsL.nil⟩
  refine st γ _ _ σ _ _ (r.mk' e0 o0) (hv p mp) fun ds M1 ps H1 o1 i1 e1 h1 => ?_
  obtain ⟨ks, es, ek, nd, l15, pu, m1, hr⟩ := h1
  obtain ⟨ln, xs, il, ep⟩ := keys_is ek i1
  have hx := il.len
  have hp1 : H1 p = some (.dK []) := by
    obtain ⟨_, _, ys, a, b⟩ := o1 p _ m1
    rw [a]
    rfl
  have nk : ((ks.zip xs).map (·.1)) = ks := by rw [List.map_fst_zip]; omega
  have mg : mergeK [] (ks.zip xs) = ks.zip xs := merge_new _ [] (by rw [List.nil_append, nk]; exact nd)
  refine ⟨hp1, ks.zip xs, ep, by rw [List.length_zip]; omega, ?_⟩
  rw [mg]
  have is1 : (M1 p).isSome = true := by rw [m1]; rfl
  have e2 : Ext M1 (mset M1 p (.dct ks es)) H1 (upd H1 p (.dK (ks.zip xs))) := Ext.put is1
  have o2 : Own ⟨X.K, C⟩ (mset M1 p (.dct ks es)) (upd H1 p (.dK (ks.zip xs))) := o1.setM e2 ⟨pu, ln, xs, upd_same, IsL.ext e2 _ _ il⟩
  have sb : Sub (mdel M1 p) (mset M1 p (.dct ks es)) := fun a m q => by
    unfold mdel at q
    split at q
    · cases q
    · rename_i ne
      rw [mset_ne ne]; exact q
  have nn : mdel M1 p p = none := by unfold mdel; rw [if_pos rfl]
  refine k _ (mdel M1 p) _ _ (o2.sub sb) ?_ (((e0.trans e1).trans e2).sub sb fun a ha => ?_) hr
  · unfold Is
    exact ⟨p, xs, rfl, nn, upd_same, ln, IsL.sub (fun b hb => sb.non hb) es xs pu (IsL.ext e2 _ _ il)⟩
  · have ne : a ≠ p := fun z => by rw [z, mp] at ha; cases ha
    have q := e1.ow a (by rw [mset_ne ne]; exact ha)
    unfold mdel
    rw [if_neg ne]
    exact q
end
def oCatT : DO := fun d e M R => match d, e with
  | .tup xs, .tup ys => xs.length + ys.length ≤ sizeLine ∧ R (.tup (xs ++ ys)) M
  | _, _ => False
theorem f_catT {M : Mem} {R : DR} {xs ys : List D} : oCatT (.tup xs) (.tup ys) M R = (xs.length + ys.length ≤ sizeLine ∧ R (.tup (xs ++ ys)) M) := id rfl
section
variable {X : Cx} {C : Addr} {a b : Expr} {va vb : DE} {pos : Pos}
end
theorem vlc_eq {ve : DE} {g : DG} {t : DT} {e : DE} {vs : List Nat} {γ : Gm} {M : Mem} {R : DR} : vLc (wList ve) g t e vs γ M R = ve γ M (fun d M1 => vLc (wList (fun _ M2 R2 => R2 d M2)) g t e vs γ M1 R) := id rfl
theorem vlc_listW {ve : DE} {g : DG} {t : DT} {e : DE} {vs : List Nat} {γ : Gm} {M M1 : Mem} {R : DR} (ds : List D) (hve : ∀ F : DR, F (.lst ds) M1 → ve γ M F)
    (h : ∀ p, M1 p = none → ∃ W : Nat → List D → Mem → Prop, W 0 [] M1 ∧ (∀ i acc M', W i acc M' → M' p = none ∧ acc.length < sizeLine) ∧
      (∀ i acc M' d, W i acc M' → ds[i]? = some d → g d (gwipe γ vs) (mset M' p (.lst acc)) fun γ2 M2 => t γ2 M2 fun b M3 =>
        (b = true → e γ2 M3 fun y M4 => pureD y = true ∧ ∃ M5, M4 = mset M5 p (.lst acc) ∧ W (i + 1) (acc ++ [y]) M5) ∧ (b = false → ∃ M5, M3 = mset M5 p (.lst acc) ∧ W (i + 1) acc M5)) ∧
      (∀ acc M', W ds.length acc M' → R (.lst acc) M')) : vLc (wList ve) g t e vs γ M R :=
  hve _ (fun p hp => by
    obtain ⟨W, a, b, c, d⟩ := h p hp
    exact ⟨W, a, fun i acc M' w => ⟨(b i acc M' w).1, (b i acc M' w).2, rfl⟩, c, d⟩)
section
variable {X : Cx} {C : Addr} {a b c d : Expr} {va vb vc vd : DE} {pos : Pos}
end
end Dl
namespace L2
open PySem PySem.Spec PyProof.Rows
section
variable {X : Cx} {a b c d : Expr} {ta tb tc td : TE} {pos : Pos}
end
end L2
namespace Dl
open PySem L2
section
variable {X : Cx} {C : Addr} {a b c d : Expr} {va vb vc vd : DE} {pos : Pos}
end
end Dl
namespace L2
open PySem PySem.Spec PyProof.Rows
structure FnG (P : Program) (w : World) (K : PySem.W.Frag) (mg : Str → Option Value) (base : Heap) (CX : CXT) (k : Nat) (f : Addr) (fd : FuncData) (ps : List Str) (sp : Sp) : Prop where
  len : ∀ vs H Q E, sp vs H Q E → vs.length = ps.length
  run : ∀ (A : Around) (outer : List Env) (s : Shared) (H : Hp) (args : Args) (us : List Value) (vs : List V) (Q : VK) (E : XK), Room k A → A.guards = some [] → Env0 P w K mg base A outer s H → BindsTo s fd args (ps.zip us) → Vals vs us → sp vs H Q E →
    codeAny (model P w) A (.call (.ref f) args) (CR CX outer P w H s Q E) s
section
variable {P : Program} {w : World} {K : PySem.W.Frag} {mg mb : Str → Option Value} {base : Heap} {x qual : Str} {params : Arguments} {body : List Stmt} {scope : Scope} {dvs : List V} {kws : List (Str × V)} {f : Addr} {fd : FuncData} {CX : CXT} {k : Nat} {ps : List Str} {sp : Sp}
theorem FnOk.g (F : FnOk P w K mg base CX k f fd ps sp) : FnG P w K mg base CX k f fd ps sp := ⟨F.len, fun A outer s H args us vs Q E hr _ => F.run A outer s H args us vs Q E hr⟩
theorem FunD.okG {N : List Str} (F : FunD K x qual params body scope dvs kws f fd) (S : FnScope N ps scope) (len : ∀ vs H Q E, sp vs H Q E → vs.length = ps.length)
    (hb : ∀ (cdv : Value) (A : Around) (outer : List Env) (s : Shared) (H : Hp) (vs : List V) (Q : VK) (E : XK), Room k (A.deeper (envOfC qual scope s.heap.objs.size f cdv)) → A.guards = some [] → sp vs H Q E →
      ∃ t, PSs (cxOf CX P w K mg base N qual scope f cdv A outer s H E) body t ∧ t { nx := fun _ H' => Q .non H', rt := Q } (start N vs) H) : FnG P w K mg base CX (k + 1) f fd ps sp := by
  obtain ⟨oc, od, dV, kV, doc, pm, an, cdv, ct, osl, rfl, lk, hcd, _, _⟩ := F.ex
  refine ⟨len, fun A outer s H args us vs Q E hr hg e0 hbi r hs => ?_⟩
  have keep : ∀ b o, base.get? b = some o → s.heap.get? b = some o := fun b o e => (e0.bs b o e).1
  refine codeAny_call_function hr.depth (e0.mod.kin.keeps keep _ _ lk) rfl S.co S.gen rfl (PySem.W.codeRec_of (e0.mod.kin.keeps keep) hcd) (hbi _ _ _ _ ?_)
  refine wpAny_newFunctionEnv_cells S.kind (fun ⟨n, v⟩ hy => ?_) fun env he s1 z => ?_
  · rcases S.par n (List.of_mem_zip hy).1 with q | q
    · exact .inl q
    · exact .inr ⟨q, PySem.W.cellsFrom_some _ _ _ (.inl q)⟩
  · subst he
    refine ⟨(e0.mod.nolimit.keeps keep).keeps z.toInCall.keep, codeAny_func ?_⟩
    obtain ⟨t, ht, hq⟩ := hb cdv A outer s H vs Q E (hr.deeper _) hg hs
    have I : Inv (cxOf CX P w K mg base N qual scope f cdv A outer s H E) [] (start N vs) H s1 := inv_start S hr.hd e0 (len _ _ _ _ hs) r z
    refine wpAny_mono (ht.run [] s1 (start N vs) H _ I hq) (fun fl s' hs' => ?_) fun _ _ q => q
    match fl, hs' with
    | .ret u, hs' =>
      obtain ⟨v, σ', H', J, rv, q⟩ := hs'
      exact ⟨v, H', J.os, J.bare, J.base, J.hok, rv, q⟩
    | .next, hs' =>
      obtain ⟨σ', H', J, q⟩ := hs'
      exact ⟨V.non, H', J.os, J.bare, J.base, J.hok, (rfl : RelV V.non Value.none), q⟩
    | .brk, hs' => obtain ⟨_, _, _, q⟩ := hs'; exact False.elim q
    | .cont, hs' => obtain ⟨_, _, _, q⟩ := hs'; exact False.elim q
theorem law_callG {fa a : Addr} {s1 : Shared} {vs : List Value} {ns : List Int}
    (KX : K.In s1.heap) (hns : s1.heap.Ns mainGlobals mg) (hb : s1.heap.Ns builtinsNs mb) (hbb : ∀ x : Str, x ≠ "__name__" → mb x = bootBuiltins x) (hlim : s1.heap.NoLimit) (hg : s1.gens = #[])
    (ha : s1.heap.get? a = some { cls := .type "list", data := .seq vs.toArray }) (hi : IntsAre vs ns) (hl : ns.length ≤ sizeLine) (hr : Room k callerA)
    (F : ∀ base : Heap, K.In base → base.Ns mainGlobals mg → FnG P w K mg base CX0 k fa fd [x] sp) (hbi : ∀ (s : Shared) (u : Value), BindsTo s fd ⟨[u], []⟩ [(x, u)])
    (hsp : ∀ H : Hp, Only H → SqL K H a (ns.map V.int) → sp [.ref a] H (fun v _ => v = .bl true) fun _ _ _ => False) :
    codeAny (model P w) callerA (.call (.ref fa) ⟨[.ref a], []⟩) (fun r s' => r = .ok (.ret (.bool true)) ∧ OldK s1.heap s'.heap ∧ s'.os = s1.os ∧ AllBare s'.gens) s1 := by
  have rv := vals_ints hi
  have main : ∀ H : Hp, Only H → SqL K H a (ns.map V.int) → HOk P w H s1.heap → (∀ b, H b ≠ none → b = a ∧ K.lookup a = none) →
      codeAny (model P w) callerA (.call (.ref fa) ⟨[.ref a], []⟩) (fun r s' => r = .ok (.ret (.bool true)) ∧ OldK s1.heap s'.heap ∧ s'.os = s1.os ∧ AllBare s'.gens) s1 := fun H hO hS hok hA => by
    have free : ∀ {b : Addr} {o : Obj}, s1.heap.get? b = some o → ((∃ es ep, o.data = .dict es ep) ∨ K.lookup b = some o) → H b = none := fun {b o} e h => by
      cases q : H b with
      | none => rfl
      | some u =>
        obtain ⟨rfl, kn⟩ := hA b (by rw [q]; simp)
        rcases h with ⟨es, ep, d⟩ | h
        · rw [ha] at e
          cases e
          cases d
        · rw [kn] at h
          cases h
    have ns : ∀ {b : Addr} {m : Str → Option Value}, s1.heap.Ns b m → (hidT s1.heap H).Ns b m := fun ⟨o, es, ep, e, d, r⟩ => ⟨o, es, ep, hidT_get e (free e (.inl ⟨_, _, d⟩)), d, r⟩
    have kin : K.In (hidT s1.heap H) := fun b o e => hidT_get (KX b o e) (free (KX b o e) (.inr e))
    have md : Mod K mg (hidT s1.heap H) := ⟨kin, ns hns, ⟨mb, ns hb, hbb⟩, let ⟨mc, h1, h2⟩ := hlim; ⟨mc, ns h1, h2⟩⟩
    have e0 : Env0 P w K mg (hidT s1.heap H) callerA [] s1 H := ⟨rfl, md, fun b o e => of_hidT e, Nat.le_of_eq (hidT_size _ _), trivial, fun b hb => absurd (show b ∈ ([] : List Addr) from hb) (by simp), hok, .of_eq hg⟩
    refine codeAny_mono ((F _ kin (ns hns)).run callerA [] s1 H ⟨[.ref a], []⟩ [.ref a] [.ref a] _ _ hr rfl e0 (hbi s1 (.ref a)) (.cons rfl .nil) (hsp H hO hS)) fun r s' h => ?_
    match r, h with
    | .error e, h => exact False.elim (show False from h)
    | .ok .next, h => exact False.elim h
    | .ok .brk, h => exact False.elim h
    | .ok .cont, h => exact False.elim h
    | .ok (.ret u), h =>
      obtain ⟨v, H', os, bare, un, hok', r', q⟩ := h
      have q' : v = .bl true := q
      subst q'
      obtain rfl : u = Value.bool true := r'
      refine ⟨rfl, OldK.of_keep fun b o e => ?_, os, bare⟩
      rcases hO b with z | ⟨ob, xs, z⟩
      · exact un.keep b o e z (by intro y; exact absurd (show b ∈ ([] : List Addr) from y) (by simp)) (by simp)
      · obtain ⟨e1, _⟩ := hok b _ z
        obtain ⟨e2, _⟩ := hok' b _ (un.frzs b ob _ z)
        rw [e] at e1
        cases e1
        exact e2
  cases hk : K.lookup a with
  | some o =>
    have e := KX a o hk
    rw [ha] at e
    cases e
    exact main (fun _ => none) (fun _ => .inl rfl) (.inr ⟨_, vs.toArray, _, hk, rfl, rfl, rfl, by rw [List.size_toArray, hi.length]; exact hl, by simpa using rv⟩) (fun b u z => nomatch (show (none : Option HO) = some u from z)) fun b z => absurd rfl z
  | none =>
    have at' : ∀ b u, (if b = a then some (HO.frz { cls := .type "list", data := .seq vs.toArray } (.lst (ns.map V.int))) else none) = some u → b = a ∧ u = HO.frz { cls := .type "list", data := .seq vs.toArray } (.lst (ns.map V.int)) := fun b u z => by
      split at z
      · cases z; exact ⟨‹_›, rfl⟩
      · cases z
    refine main (fun b => if b = a then some (.frz { cls := .type "list", data := .seq vs.toArray } (.lst (ns.map V.int))) else none) (fun b => ?_) (.inl (.inr ⟨_, if_pos rfl⟩)) (fun b u z => ?_) (fun b z => ⟨?_, hk⟩)
    · by_cases q : b = a
      · exact .inr ⟨_, _, if_pos q⟩
      · exact .inl (if_neg q)
    · obtain ⟨rfl, rfl⟩ := at' b u z
      exact ⟨ha, by rw [List.length_map]; exact hl, vs, _, rv, ha⟩
    · cases q : (if b = a then some (HO.frz { cls := .type "list", data := .seq vs.toArray } (.lst (ns.map V.int))) else none) with
      | none => exact absurd q z
      | some u => exact (at' b u q).1
theorem walk_ofG {l : PySem.W.OpenLaw} {n : Nat} {q : Program} {loose : List Str} {XP : (Str → Option Value) → Heap → Prop} {YP : World → Heap → Prop} {d : DefRec}
    (hn : l.most = some n) (hn2 : n ≤ sizeLine) (hdf : d.params.defaults = []) (hr : Room k callerA)
    (F : ∀ (w : World) (mg : Str → Option Value) (fa : Addr) (h : Heap), YP w h → h.Ns mainGlobals mg → mg d.name = some (.ref fa) →
      ∃ (K : PySem.W.Frag) (fd : FuncData) (sp : Sp), K.In h ∧ (∀ (s : Shared) (u : Value), BindsTo s fd ⟨[u], []⟩ [(x, u)]) ∧
        (∀ (H : Hp) (a : Addr) (ns : List Int), ns.length ≤ n → Only H → SqL K H a (ns.map V.int) → sp [.ref a] H (fun v _ => v = .bl true) fun _ _ _ => False) ∧
        ∀ base : Heap, K.In base → base.Ns mainGlobals mg → FnG l.prog w K mg base CX0 k fa fd [x] sp) :
    PySem.W.WalkO q loose XP YP l.row.toRowW d [] (fun f vs => PySem.call f vs) := by
  refine Att.attach_call hn hdf fun w s₀ s₁ mg mb fa o pm cd doc a vs ns G Y ho hd hcd hmg hobj hints hlen hg => ?_
  obtain ⟨K, fd, sp, KX, hb, hsp, hF⟩ := F w mg fa _ Y G.T.g hmg
  exact law_callG KX G.T.g G.T.b G.T.builtins G.T.nolimit hg hobj hints (Nat.le_trans hlen hn2) hr hF hb fun H hO hS => hsp H a ns hlen hO hS
end
section
variable {X : Cx} {CX : CXT} {k : Nat} {f : Addr} {fd : FuncData} {ps : List Str} {sp : Sp} {dvs : List V} {ds : List Value} {E : XK} {x : Str} {p pos : Pos} {e : Expr} {es : List Expr} {t : TA}
theorem run_fnG {pins : List (Addr × Obj)} {σ : St} {H : Hp} {s : Shared} {Q : VK} {us : List Value} {vs : List V} (F : FnG X.prog X.w X.K X.mg X.base CX k f fd ps sp) (hr : Room k X.A) (hgu : X.A.guards = some []) (hb : Binds X.K fd ps ds) (hd : Vals dvs ds) (hx : Passes CX X E)
    (I : Inv X pins σ H s) (r : Vals vs us) (h : sp (vs ++ dvs) H Q E) : wpAny (model X.prog X.w) X.A (call (.ref f) us) (EP X pins σ Q) X.xe s := by
  have r2 : Vals (vs ++ dvs) (us ++ ds) := r.append hd
  have hl : (us ++ ds).length = ps.length := by rw [← r2.length]; exact F.len _ _ _ _ h
  refine wpAny_call (codeAny_mono (F.run X.A X.stack s H ⟨us, []⟩ (us ++ ds) (vs ++ dvs) Q E hr hgu I.env0 (hb s us I.kIn hl) r2 h) fun z s' hz => ?_)
  match z, hz with
  | .error u, hz => exact hx pins σ H s u s' I hz
  | .ok (.ret u), hz => exact I.after hz
  | .ok .next, hz => exact hz.elim
  | .ok .brk, hz => exact hz.elim
  | .ok .cont, hz => exact hz.elim
theorem pe_callG (F : FnG X.prog X.w X.K X.mg X.base CX k f fd ps sp) (hr : Room k X.A) (hgu : X.A.guards = some []) (hg : Gl X x) (hm : X.mg x = some (.ref f)) (hk : PySem.W.keepIn X.K (.ref f) = true) (hb : Binds X.K fd ps ds) (hd : Vals dvs ds) (hx : Passes CX X E)
    (ha : PA X (e :: es) t) (hdb : (x == ("__debug__" : Str)) = false := by decide) (he : starEach (e :: es) X.env = (false, eval e X.env) :: starEach es X.env := by rfl) (hpl : (backTo pos (starEach es X.env)).any (·.1) = false := by rfl) :
    PE X (.Call (.Name x p) (e :: es) [] pos) (tCall sp dvs E t) :=
  ⟨fun pins s σ H Q I h => wpAny_Call_Name_kw (ld_glob I hg hm (PySem.W.callWith_K (h₀ := X.base) I.ok.mod.kin hk (thn (ha.run pos pins s σ H _ I h) fun us s1 ⟨vs, H1, I1, r, q⟩ => ⟨I1.kIn, run_fnG F hr hgu hb hd hx I1 r q⟩) he hpl) hdb)⟩
end
end L2
namespace Dl
open PySem L2
structure CallG (P : Program) (w : World) (K : PySem.W.Frag) (mg : Str → Option Value) (base : Heap) (C : Addr) (k : Nat) (x : Str) (n : Nat) (S : DSp) : Prop where
  ex : ∃ (f : Addr) (fd : FuncData) (ps : List Str), mg x = some (.ref f) ∧ PySem.W.keepIn K (.ref f) = true ∧ FnG P w K mg base CX0 k f fd ps (spD ⟨K, C⟩ n S) ∧ Binds K fd ps []
section
variable {X : Cx} {C : Addr} {k j n : Nat} {S : DSp} {x : Str} {p pos : Pos} {e : Expr} {es : List Expr} {va : DA}
theorem qcG (h : CallG X.prog X.w X.K X.mg X.base C k x n S) (hr : Room j X.A) (hkj : k ≤ j) (hgu : X.A.guards = some []) (ha : QA X C (e :: es) va) (hg : Gl X x := by rfl) (hdb : (x == ("__debug__" : Str)) = false := by decide) (he : starEach (e :: es) X.env = (false, eval e X.env) :: starEach es X.env := by rfl) (hpl : (backTo pos (starEach es X.env)).any (·.1) = false := by rfl) :
    QE X C (.Call (.Name x p) (e :: es) [] pos) (vCall n S [] va) := by
  obtain ⟨f, fd, ps, h1, h2, h3, h4⟩ := h.ex
  obtain ⟨ta, pa, sa⟩ := ha.ex
  exact ⟨_, pe_callG h3 (hr.mono hkj) hgu hg h1 h2 h4 .nil pass0 pa hdb he hpl, snd_call rfl sa⟩
end
section
variable {P : Program} {w : World} {K : PySem.W.Frag} {mg : Str → Option Value} {base : Heap} {C : Addr} {k n : Nat} {S : DSp} {x qual : Str} {params : Arguments} {body : List Stmt} {scope : Scope} {dvs : List V} {kws : List (Str × V)} {f : Addr} {fd : FuncData} {ps : List Str}
theorem callG_all (G : mg x = some (.ref f)) (F : FunD K x qual params body scope [] kws f fd) (ok : FnG P w K mg base CX0 k f fd ps (spD ⟨K, C⟩ n S))
    (h : ∀ (kV doc pm : Value) (an : Option Addr) (cdv ct : Value) (us : List Value), us.length = ps.length → bindArgs (PySem.W.fnOf x qual params body scope .none kV doc pm an cdv ct) ⟨us, []⟩ = pure (ps.zip us)) : CallG P w K mg base C k x n S :=
  ⟨f, fd, ps, G, F.kp, ok, F.bindsN h⟩
theorem fn_okG {N ps : List Str} {k : Nat} {C : Addr} {S : DSp} {v : DS} (n m : Nat) (F : FunD K x qual params body scope dvs kws f fd) (SC : FnScope N ps scope)
    (hq : ∀ (cdv : Value) (A : Around) (outer : List Env) (s : Shared) (H : Hp) (E : XK), Room k (A.deeper (PyProof.Rows.envOfC qual scope s.heap.objs.size f cdv)) → A.guards = some [] → QSs (cxOf CX0 P w K mg base N qual scope f cdv A outer s H E).nox C body v)
    (hv : ∀ ds M R, ds.length = m → S ds M R noX → v (fEnds M R) (st0 n ds) M) (hn : N.length = n := by rfl) (hm : ps.length = m := by rfl) : FnG P w K mg base CX0 (k + 1) f fd ps (spD ⟨K, C⟩ m S) := by
  subst hn; subst hm
  have hpl : ps.length ≤ N.length := by have := congrArg List.length SC.pre; rw [List.length_take] at this; omega
  refine FunD.okG F SC (fun vs H Q E h => ?_) (fun cdv A outer s H vs Q E hr hg h => ?_)
  · obtain ⟨ds, M, R, hl, il, _⟩ := h
    rw [← il.len]; exact hl
  · obtain ⟨ds, M, R, hl, il, ow, hs, k2⟩ := h
    obtain ⟨t, pt, st⟩ := (hq cdv A outer s H E hr hg).ex
    refine ⟨t, pt.nox, st (fEnds M R) (st0 N.length ds) M _ H _ ⟨st0_rel il (by omega), ow⟩ ⟨?_, ?_, ?_, ?_, ?_⟩ (hv ds M R hl hs)⟩
    · intro γ M' σ H' r' e' h'
      exact fin_ok r'.ow is_non e' h' k2
    · intro d M' y H' o' i' e' h'
      exact fin_ok o' i' e' h' k2
    · intro _ _ _ _ _ _ h'; exact h'.elim
    · intro _ _ _ _ _ _ h'; exact h'.elim
    · intro _ _ _ _ _ _ _ _ _ _ h'; exact h'.elim
end
mutual
def noLst : D → Bool
  | .tup ds => noLstL ds
  | .lst _ => false
  | .dct _ ds => noLstL ds
  | _ => true
def noLstL : List D → Bool
  | [] => true
  | d :: ds => noLst d && noLstL ds
end
def kP : Key → PyData
  | .inl i => .int i
  | .inr x => .str x
mutual
def toR : D → Option PyData
  | .non => some .none
  | .bl b => some (.bool b)
  | .int i => some (.int i)
  | .str x => some (.str x)
  | .tup ds => match toRL ds with
    | some ps => some (.tuple ps)
    | none => none
  | .lst ds => match toRL ds with
    | some ps => some (.list ps)
    | none => none
  | .dct ks ds => match toRL ds with
    | some ps => some (.dict ((ks.map kP).zip ps))
    | none => none
  | _ => none
def toRL : List D → Option (List PyData)
  | [] => some []
  | d :: ds => match toR d, toRL ds with
    | some p, some ps => some (p :: ps)
    | _, _ => none
end
theorem toRL_len : ∀ {ds : List D} {ps : List PyData}, toRL ds = some ps → ps.length = ds.length
  | [], ps, e => by unfold toRL at e; cases e; rfl
  | d :: ds, ps, e => by
    unfold toRL at e
    split at e
    · rename_i p qs e1 e2
      cases e
      rw [List.length_cons, List.length_cons, toRL_len e2]
    · cases e
section
variable {X : Cx} {C : Addr} {pins : List (Addr × Obj)} {σ : St} {H : Hp} {s : Shared} {M : Mem}
theorem pairs_reads {P : Program} {w : World} {h : Heap} {es : List DictEntry} {us : List (Key × Value)} (hp : PySem.Pairs (mixKind P w) es us) : ∀ {ks : List Key} {vs : List V} {qs : List PyData}, KV (ks.zip vs) us → ks.length = vs.length → qs.length = ks.length →
    ReadsAll h (es.map (·.key)) (((ks.map kP).zip qs).map (·.1)) [] ∧ Vals vs (es.map (·.val)) ∧ ((ks.map kP).zip qs).map (·.2) = qs := by
  induction hp with
  | nil =>
    intro ks vs qs hk hl hq
    cases ks with
    | nil =>
      cases vs with
      | cons _ _ => cases hl
      | nil =>
        cases qs with
        | cons _ _ => cases hq
        | nil => exact ⟨.nil, .nil, rfl⟩
    | cons k ks =>
      cases vs with
      | nil => cases hl
      | cons v vs => cases hk
  | cons h1 h2 h3 ih =>
    intro ks vs qs hk hl hq
    cases ks with
    | nil => cases hk
    | cons k ks =>
      cases vs with
      | nil => cases hl
      | cons v vs =>
        cases qs with
        | nil => cases hq
        | cons q qs =>
          cases hk with
          | cons a b =>
            obtain ⟨r1, r2, r3⟩ := ih b (by simpa using hl) (by simpa using hq)
            obtain ⟨a1, a2⟩ := a
            refine ⟨?_, .cons (by simp only [h2]; exact a2) r2, by simpa using r3⟩
            rcases keyIs_shape h1 with ⟨i, t, e1, e2⟩ | ⟨x, t, e1, e2⟩
            · have e3 : k = Sum.inl i := (show k = _ from a1).trans e1
              subst e3
              rw [List.map_cons, e2]
              exact ReadsAll.cons (Reads.int i t) r1
            · have e3 : k = Sum.inr x := (show k = _ from a1).trans e1
              subst e3
              rw [List.map_cons, e2]
              exact ReadsAll.cons (Reads.str x t) r1
mutual
theorem is_reads (I : Inv X pins σ H s) : ∀ (d : D) (v : V) (u : Value) (p : PyData), Is ⟨X.K, C⟩ M H d v → RelV v u → toR d = some p → ∃ as, Reads s.heap u p as ∧ (noLst d = true → sysModules ∉ as)
  | .non, v, u, p, i, r, e => by unfold toR at e; unfold Is at i; cases e; subst i; cases r; exact ⟨_, Reads.none, fun _ => by simp⟩
  | .bl b, v, u, p, i, r, e => by unfold toR at e; unfold Is at i; cases e; subst i; cases r; exact ⟨_, Reads.bool b, fun _ => by simp⟩
  | .int n, v, u, p, i, r, e => by unfold toR at e; unfold Is at i; cases e; subst i; obtain ⟨t, rfl⟩ := r; exact ⟨_, Reads.int n t, fun _ => by simp⟩
  | .str x, v, u, p, i, r, e => by unfold toR at e; unfold Is at i; cases e; subst i; obtain ⟨t, rfl⟩ := r; exact ⟨_, Reads.str x t, fun _ => by simp⟩
  | .tup ds, v, u, p, i, r, e => by
    unfold toR at e
    split at e
    · rename_i ps e1
      cases e
      unfold Is at i
      obtain ⟨a, xs, rfl, _, hH, il⟩ := i
      cases r
      obtain ⟨its, rv, ⟨o, ho, hc, n, hd⟩, _⟩ := I.tuple (show SqT X.K H a xs from .inl (.inl hH))
      obtain ⟨as, hr, hn⟩ := isL_reads I ds xs its ps il rv e1
      exact ⟨_, Reads.tuple ho hc hd hr, fun z => hn (by simpa only [noLst] using z)⟩
    · cases e
  | .lst ds, v, u, p, i, r, e => by
    unfold toR at e
    split at e
    · rename_i ps e1
      cases e
      unfold Is at i
      obtain ⟨a, xs, rfl, _, hH, il⟩ := i
      cases r
      obtain ⟨its, rv, ⟨o, n, ho, hc, _, hd⟩, _⟩ := I.list (show SqL X.K H a xs from .inl (.inl hH))
      obtain ⟨as, hr, _⟩ := isL_reads I ds xs its ps il rv e1
      exact ⟨_, Reads.list ho hc hd hr, fun z => by simp only [noLst] at z; cases z⟩
    · cases e
  | .dct ks ds, v, u, p, i, r, e => by
    unfold toR at e
    split at e
    · rename_i ps e1
      cases e
      unfold Is at i
      obtain ⟨a, xs, rfl, _, hH, hl, il⟩ := i
      cases r
      obtain ⟨_, hs, us, kv, o, es, ep, h1, hx, h2, _, h3, _⟩ := I.hok a _ hH
      have l1 := toRL_len e1
      have l2 := il.len
      obtain ⟨q1, q2, q3⟩ := pairs_reads (h := s.heap) h3 (qs := ps) kv (by omega) (by omega)
      obtain ⟨bs, hr, hn⟩ := isL_reads I ds xs _ ps il q2 e1
      exact ⟨_, Reads.dict h1 hx.1 h2 q1 (by rw [q3]; exact hr), fun z => by
        have := hn (by simpa only [noLst] using z)
        have hs' : a ≠ sysModules := by simpa using hs
        simp only [List.append_nil, List.cons_append, List.nil_append, List.mem_cons, not_or]
        exact ⟨fun q => hs' q.symm, this⟩⟩
    · cases e
  | .own _, _, _, _, _, _, e => by unfold toR at e; cases e
  | .scr _, _, _, _, _, _, e => by unfold toR at e; cases e
  | .ln _ _ _, _, _, _, _, _, e => by unfold toR at e; cases e
  | .exn _ _, _, _, _, _, _, e => by unfold toR at e; cases e
  | .exn0 _, _, _, _, _, _, e => by unfold toR at e; cases e
  | .cls, _, _, _, _, _, e => by unfold toR at e; cases e
theorem isL_reads (I : Inv X pins σ H s) : ∀ (ds : List D) (vs : List V) (us : List Value) (ps : List PyData), IsL ⟨X.K, C⟩ M H ds vs → Vals vs us → toRL ds = some ps → ∃ as, ReadsAll s.heap us ps as ∧ (noLstL ds = true → sysModules ∉ as)
  | [], vs, us, ps, i, r, e => by
    unfold toRL at e
    cases e
    cases vs with
    | nil => cases r; exact ⟨_, ReadsAll.nil, fun _ => by simp⟩
    | cons _ _ => unfold IsL at i; exact i.elim
  | d :: ds, vs, us, ps, i, r, e => by
    unfold toRL at e
    split at e
    · rename_i p qs e1 e2
      cases e
      cases vs with
      | nil => unfold IsL at i; exact i.elim
      | cons v vs =>
        unfold IsL at i
        cases r with
        | cons r1 r2 =>
          obtain ⟨as, q1, n1⟩ := is_reads I d _ _ _ i.1 r1 e1
          obtain ⟨bs, q2, n2⟩ := isL_reads I ds _ _ _ i.2 r2 e2
          exact ⟨_, ReadsAll.cons q1 q2, fun z => by
            simp only [noLstL, Bool.and_eq_true] at z
            rw [List.mem_append, not_or]
            exact ⟨n1 z.1, n2 z.2⟩⟩
    · cases e
end
end
structure ShowOk (d : D) (p : PyData) : Prop where
  is : toR d = some p
  sh : p.showable = true
  len : p.shown.length ≤ sizeLine
  dep : p.depth ≤ 60
  dic : p.hasDict = false ∨ noLst d = true
section
variable {X : Cx} {C : Addr}
def rReprD (X : Cx) (C : Addr) : List V → Hp → VK → Prop := fun xs H Q => ∃ M d v p, xs = [v] ∧ Is ⟨X.K, C⟩ M H d v ∧ ShowOk d p ∧ Q (.str p.shown) H
theorem cr_reprD (hg : X.A.guards = some []) (hu : X.A.units + 64 < cLine) : CallR X (.builtin "repr") (rReprD X C) := by
  intro pins s σ H xs us Q I r h
  obtain ⟨M, d, v, p, rfl, i, sh, q⟩ := h
  obtain ⟨u, rfl, t⟩ := vals1 r
  obtain ⟨as, rd, nl⟩ := is_reads I d v u p i t sh.is
  have fin : ∀ h' u tk, (∀ b o, s.heap.get? b = some o → h'.get? b = some o) → EP X pins σ Q (.str p.shown u) { s with heap := h', toks := tk } := fun h' u tk k => ⟨.str p.shown, H, I.kept k, ⟨u, rfl⟩, q⟩
  have ss := sh.sh
  have sl := sh.len
  have big : ∀ (a : Addr), u = .ref a → wpAny (model X.prog X.w) X.A (call (.builtin "repr") [u]) (EP X pins σ Q) X.xe s := fun a e => by
    subst e
    exact repr_of_reads' rd ss (fun z => by
      rcases sh.dic with y | y
      · rw [y] at z; cases z
      · exact nl y) hg (by have := sh.dep; omega) (fun _ _ e => e) fin sl
  cases rd with
  | none => exact PySem.P.repr_of_none (fin s.heap _ _ fun _ _ e => e)
  | bool b => exact PySem.P.repr_of_bool (fin s.heap _ _ fun _ _ e => e)
  | int n t => exact PySem.P.repr_of_int (by simpa [PyData.showable] using ss) (fin s.heap _ _ fun _ _ e => e)
  | str x t => exact PySem.P.repr_of_str (fin s.heap _ _ fun _ _ e => e) (by simpa only [PyData.shown] using sl)
  | list _ _ _ _ => exact big _ rfl
  | tuple _ _ _ _ => exact big _ rfl
  | dict _ _ _ _ _ => exact big _ rfl
end
end Dl
namespace Dl
open PySem L2
def oEqN (f : Bool → Bool) : DO := fun d e M R => match d, e with
  | .lst ds, .lst [] => R (.bl (f ds.isEmpty)) M
  | _, _ => False
theorem f_eqNl {f : Bool → Bool} {ds : List D} {M : Mem} {R : DR} : oEqN f (.lst ds) (.lst []) M R = R (.bl (f ds.isEmpty)) M := rfl
def rEqN (f : Bool → Bool) : R2 := fun x y H Q => ∃ a b xs, x = .ref a ∧ y = .ref b ∧ H a = some (.lst xs) ∧ H b = some (.lst []) ∧ Q (.bl (f xs.isEmpty)) H
section
variable {X : Cx} {C : Addr}
theorem op_eqNl (hu : X.A.units < cLine) : OpR X (compareOp .Eq) (rEqN id) := by
  intro pins s σ H x y v u Q I rx ry h
  obtain ⟨a, b, xs, rfl, rfl, ea, eb, q⟩ := h
  obtain rfl : v = Value.ref a := rx
  obtain rfl : u = Value.ref b := ry
  obtain ⟨_, its, n, ra, ya⟩ := (show ObjOk X.prog X.w H s.heap a (.lst xs) from I.hok a _ ea)
  obtain ⟨_, jts, m, rb, yb⟩ := (show ObjOk X.prog X.w H s.heap b (.lst []) from I.hok b _ eb)
  have h1 := ra.length
  have h2 := rb.length
  cases xs with
  | nil =>
    cases ra
    cases rb
    exact SeqAt.RcAt.lists (e := fun _ => true) ⟨_, ya, rfl, _, rfl⟩ ⟨_, yb, rfl, _, rfl⟩ rfl hu (fun j z _ => absurd z (by simp)) X.prog X.w X.xe _ ⟨.bl _, H, I, rfl, q⟩
  | cons z zs =>
    refine SeqAt.RcAt.lists_lengths ⟨_, ya, rfl, _, rfl⟩ ⟨_, yb, rfl, _, rfl⟩ ?_ hu X.prog X.w X.xe _ ⟨.bl _, H, I, rfl, q⟩
    simp at h1 h2 ⊢; omega
theorem op_neNl (hu : X.A.units < cLine) : OpR X (compareOp .NotEq) (rEqN Bool.not) := by
  intro pins s σ H x y v u Q I rx ry h
  obtain ⟨a, b, xs, rfl, rfl, ea, eb, q⟩ := h
  obtain rfl : v = Value.ref a := rx
  obtain rfl : u = Value.ref b := ry
  obtain ⟨_, its, n, ra, ya⟩ := (show ObjOk X.prog X.w H s.heap a (.lst xs) from I.hok a _ ea)
  obtain ⟨_, jts, m, rb, yb⟩ := (show ObjOk X.prog X.w H s.heap b (.lst []) from I.hok b _ eb)
  have h1 := ra.length
  have h2 := rb.length
  cases xs with
  | nil =>
    cases ra
    cases rb
    exact SeqAt.RcNeAt.lists (e := fun _ => true) ⟨_, ya, rfl, _, rfl⟩ ⟨_, yb, rfl, _, rfl⟩ rfl hu (fun j z _ => absurd z (by simp)) X.prog X.w X.xe _ ⟨.bl _, H, I, rfl, q⟩
  | cons z zs =>
    refine SeqAt.RcNeAt.lists_lengths ⟨_, ya, rfl, _, rfl⟩ ⟨_, yb, rfl, _, rfl⟩ ?_ hu X.prog X.w X.xe _ ⟨.bl _, H, I, rfl, q⟩
    simp at h1 h2 ⊢; omega
theorem sndO_eqNl {G : Gx} {f : Bool → Bool} : SndO G (rEqN f) (oEqN f) := fun d e M R H x y Q o i1 i2 h k => by
  unfold oEqN at h
  split at h
  · rename_i ds
    unfold Is at i1 i2
    obtain ⟨a, us, ex, _, ha, hl⟩ := i1
    obtain ⟨b, vs, ey, _, hb, hl2⟩ := i2
    have l1 := hl.len
    have l2 := hl2.len
    have ev : vs = [] := by cases vs with
      | nil => rfl
      | cons _ _ => simp at l2
    subst ev
    refine ⟨a, b, us, ex, ey, ha, hb, k _ M _ H o is_bl Ext.refl ?_⟩
    have e : us.isEmpty = ds.isEmpty := by
      cases us <;> cases ds <;> simp at l1 ⊢
    rw [e]
    exact h
  · exact h.elim
theorem c_neNl {k : Nat} (hr : Room k X.A) : CmpQ X C .NotEq (oEqN Bool.not) := ⟨_, op_neNl (by have := hr.units; omega), sndO_eqNl⟩
end
end Dl
namespace Dl
open PySem L2
def frD (q : Addr) : D → Prop
  | .own r => r ≠ q
  | d => pureD d = true
def frAll (q : Addr) : Gm → Prop
  | [] => True
  | none :: r => frAll q r
  | some d :: r => frD q d ∧ frAll q r
def frOk (q : Addr) : Nat → Gm → Prop
  | _, [] => True
  | 0, _ :: r => frAll q r
  | i + 1, none :: r => frOk q i r
  | i + 1, some d :: r => frD q d ∧ frOk q i r
def frzK (i : Nat) (M : Mem) (u : Gm → Mem → Prop) : Gm → Mem → Prop := fun γ' M' => ∃ q es, gt γ' i = some (.own q) ∧ M q = none ∧ M' q = some (.lst es) ∧ frOk q i γ' ∧ u (gset γ' i (some (.lst es))) (mdel M' q)
section
variable {X : Cx} {C : Addr} {s1 s2 : Stmt} {rest : List Stmt} {a b u : DS}
end
end Dl
namespace Dl
open PySem L2
def bmV : List Value := [.type "ValueError", .type "Exception", .type "BaseException", .type "object"]
structure ExK0 (K : PySem.W.Frag) (mg : Str → Option Value) (c : Str) : Prop where
  ex : mg c = some (.ref (He.ga K c)) ∧ PySem.W.excIn K (He.ga K c) bmV "ValueError.__new__" = true ∧ PySem.W.keepIn K (.ref (He.ga K c)) = true ∧ PySem.W.subIn K (.ref (He.ga K c)) (.type "BaseException") = some true ∧
    PySem.W.typeIn K (.ref (He.ga K c)) = some (.type "type") ∧ PySem.W.exmOne K (.ref (He.ga K c)) (.ref (He.ga K "FourTestsError")) = some true ∧ noFld c = true
  me : PySem.W.exmOne K (.ref (He.ga K c)) (.ref (He.ga K c)) = some true
section
variable {X : Cx} {C : Addr} {j k n : Nat} {S : DSp} {Sx : DSx} {o e fe : Expr} {es : List Expr} {m x c : Str} {pos pos' apos p : Pos} {f g : Addr} {fd : FuncData} {ps : List Str} {sp : Sp} {ta : TE} {t : TA}
structure MOkX (P : Program) (w : World) (K : PySem.W.Frag) (mg : Str → Option Value) (base : Heap) (C : Addr) (k : Nat) (m : Str) (n : Nat) (S : DSp) (Sx : DSx) : Prop where
  ex : ∃ (f : Addr) (fd : FuncData) (ps : List Str), Cls K C ∧ Meth K C m f ∧ (m == ("parts" : Str)) = false ∧ FnOk P w K mg base (CXp P w) k f fd ps (spU ⟨K, C⟩ n S Sx) ∧ Binds K fd ps []
structure COkX (P : Program) (w : World) (K : PySem.W.Frag) (mg : Str → Option Value) (base : Heap) (C : Addr) (k n : Nat) (S : DSp) (Sx : DSx) : Prop where
  ex : ∃ (g : Addr) (fd : FuncData) (ps : List Str), StX.CallO K C g ∧ FnOk P w K mg base (CXp P w) k g fd ps (spU ⟨K, C⟩ n S Sx) ∧ Binds K fd ps []
end
end Dl
namespace Dl
open PySem L2
def oStrI : DC := fun ds M R => match ds with
  | [.int i] => i.natAbs.log2 < 1920 ∧ R (.str (toString i)) M
  | _ => False
theorem f_strI {i : Int} {M : Mem} {R : DR} : oStrI [.int i] M R = (i.natAbs.log2 < 1920 ∧ R (.str (toString i)) M) := id rfl
def strsOf : List D → Option (List Str)
  | [] => some []
  | .str x :: ds => (match strsOf ds with
    | some xs => some (x :: xs)
    | none => none)
  | _ :: _ => none
section
variable {X : Cx} {C : Addr} {o e : Expr} {va ve : DE} {pos apos : Pos}
def vFmt (a : DE) : DE := fun γ M R => a γ M fun d M1 => match d with
  | .int i => i.natAbs.log2 < 1920 ∧ R (.str (toString i)) M1
  | .str y => y.length ≤ sizeLine ∧ R (.str y) M1
  | _ => False
theorem e_vFmt (a : DE) (γ : Gm) (M : Mem) (R : DR) : vFmt a γ M R = (a γ M fun d M1 => match d with
  | .int i => i.natAbs.log2 < 1920 ∧ R (.str (toString i)) M1
  | .str y => y.length ≤ sizeLine ∧ R (.str y) M1
  | _ => False) := propext Iff.rfl
theorem q_fmt (he : QE X C e ve) : QE X C (.FormattedValue e (-1) none pos) (vFmt ve) := by
  obtain ⟨te, pe, se⟩ := he.ex
  refine ⟨_, pe_fmt pe, fun γ M R σ H Q r h k => se γ M _ σ H _ r h fun d M1 x H1 o1 i1 e1 h1 => ?_⟩
  match d, h1 with
  | .int i, h1 =>
    unfold Is at i1
    exact .inr ⟨i, i1, h1.1, k _ M1 _ H1 o1 is_str e1 h1.2⟩
  | .str y, h1 =>
    unfold Is at i1
    exact .inl ⟨y, i1, h1.1, k _ M1 _ H1 o1 is_str e1 h1.2⟩
def vJs : List DE → Str → Gm → Mem → (Str → Mem → Prop) → Prop
  | [], acc, _, M, R => R acc M
  | v :: vs, acc, γ, M, R => v γ M fun d M1 => match d with
    | .str y => (acc ++ y).length ≤ sizeLine ∧ vJs vs (acc ++ y) γ M1 R
    | _ => False
theorem e_vJs0 (acc : Str) (γ : Gm) (M : Mem) (R : Str → Mem → Prop) : vJs [] acc γ M R = R acc M := id rfl
theorem e_vJs1 (v : DE) (vs : List DE) (acc : Str) (γ : Gm) (M : Mem) (R : Str → Mem → Prop) : vJs (v :: vs) acc γ M R = (v γ M fun d M1 => match d with
    | .str y => (acc ++ y).length ≤ sizeLine ∧ vJs vs (acc ++ y) γ M1 R
    | _ => False) := id rfl
structure QJ (X : Cx) (C : Addr) (es : List Expr) (vs : List DE) : Prop where
  ex : ∃ ts, PJ X es ts ∧ ∀ (acc : Str) (γ : Gm) (M : Mem) (R : Str → Mem → Prop) (σ : St) (H : Hp) (Q : Str → Hp → Prop), Rel ⟨X.K, C⟩ M γ σ H → vJs vs acc γ M R →
    (∀ y M' H', Own ⟨X.K, C⟩ M' H' → Ext M M' H H' → R y M' → Q y H') → tJs ts acc σ H Q
theorem qj_nil : QJ X C [] [] := ⟨[], .nil, fun acc γ M R σ H Q r h k => k acc M H r.ow Ext.refl h⟩
theorem qj_cons {es : List Expr} {vs : List DE} (he : QE X C e ve) (hr : QJ X C es vs) : QJ X C (e :: es) (ve :: vs) := by
  obtain ⟨te, pe, se⟩ := he.ex
  obtain ⟨ts, pj, sj⟩ := hr.ex
  refine ⟨_, .cons pe pj, fun acc γ M R σ H Q r h k => se γ M _ σ H _ r h fun d M1 x H1 o1 i1 e1 h1 => ?_⟩
  match d, h1 with
  | .str y, h1 =>
    unfold Is at i1
    exact ⟨y, i1, h1.1, sj _ γ M1 R σ H1 Q (r.mk' e1 o1) h1.2 fun z M' H' o' e' h' => k z M' H' o' (e1.trans e') h'⟩
def vFs (vs : List DE) : DE := fun γ M R => vJs vs Str.empty γ M fun y M1 => R (.str y) M1
theorem e_vFs (vs : List DE) (γ : Gm) (M : Mem) (R : DR) : vFs vs γ M R = vJs vs Str.empty γ M (fun y M1 => R (.str y) M1) := id rfl
theorem q_fs {v1 v2 : Expr} {rest : List Expr} {vs : List DE} (h : QJ X C (v1 :: v2 :: rest) vs) : QE X C (.JoinedStr (v1 :: v2 :: rest) pos) (vFs vs) := by
  obtain ⟨ts, pj, sj⟩ := h.ex
  exact ⟨_, pe_joined pj, fun γ M R σ H Q r hv k => sj _ γ M _ σ H _ r hv fun y M' H' o' e' h' => k _ M' _ H' o' is_str e' h'⟩
end
end Dl
namespace Dl
open PySem L2
def spLnX (G : Gx) (Sx : DSx) : Sp := fun vs H _ E => ∃ (x dx : Addr) (ds : List D) (us : List V) (M : Mem) (Xd : DX), vs = .ref x :: us ∧ ds.length = 3 ∧ H x = some (.ins G.C dx []) ∧ IsL G M H ds us ∧ Own G M H ∧ Sx ds M Xd ∧
  ∀ xd M' cls d H', Own G M' H' → XIs G M' H' xd cls d → Ext M M' H H' → Xd xd M' → E cls d H'
def spLnU (G : Gx) (Sx : DSx) : Sp := fun vs H Q E => spLn G.C vs H Q E ∨ spLnX G Sx vs H Q E
structure LMkX (P : Program) (w : World) (K : PySem.W.Frag) (mg : Str → Option Value) (base : Heap) (C : Addr) (k : Nat) (Sx : DSx) : Prop where
  ex : ∃ (f : Addr) (fd : FuncData) (ps : List Str), mg "Line" = some (.ref C) ∧ Mk K C f ∧ FnOk P w K mg base (CXp P w) k f fd ps (spLnU ⟨K, C⟩ Sx) ∧ Binds K fd ps []
section
variable {X : Cx} {C f : Addr} {j k : Nat} {Sx : DSx} {e : Expr} {es : List Expr} {x : Str} {p pos : Pos} {fd : FuncData} {ps : List Str} {sp : Sp} {t : TA}
end
end Dl
namespace Dl
open PySem L2
section
variable {X : Cx} {C : Addr} {j k n : Nat} {S : DSp} {Sx : DSx} {o e fe : Expr} {es : List Expr} {vf vo : DE} {va : DA} {m : Str} {pos apos p : Pos}
def isCls : D → Bool
  | .cls => true
  | _ => false
theorem f_cls : isCls .cls = true := id rfl
structure CMOk (P : Program) (w : World) (K : PySem.W.Frag) (mg : Str → Option Value) (base : Heap) (C : Addr) (k : Nat) (m : Str) (n : Nat) (S : DSp) : Prop where
  ex : ∃ (mc : Value) (p g : Addr) (fd : FuncData) (ps : List Str), ClX.CRead K C mc ∧ ClX.CMet K C mc m p g ∧ FnOk P w K mg base CX0 k g fd ps (spD ⟨K, C⟩ n S) ∧ Binds K fd ps []
end
end Dl
namespace Dl
open PySem L2
end Dl
namespace Dl
open PySem L2
section
variable {X : Cx} {C f g : Addr} {j k n : Nat} {S : DSp} {o fe : Expr} {vo vf : DE} {vk : DAX} {m : Str} {pos apos p : Pos} {kws : List Keyword} {ks : List Str} {fd : FuncData} {ps : List Str} {sp : Sp} {to : TE} {tk : TA} {pick : List D → List D → List D} {gg : List Value → List Value → List Value} {gV : List V → List V → List V} {vk : DA}
def PickOk (K : PySem.W.Frag) (C : Addr) (pick : List D → List D → List D) (gV : List V → List V → List V) : Prop :=
  ∀ (M : Mem) (H : Hp) (ds zs : List D) (vs us : List V), IsL ⟨K, C⟩ M H ds vs → IsL ⟨K, C⟩ M H zs us → IsL ⟨K, C⟩ M H (pick ds zs) (gV vs us)
structure MKOk (P : Program) (w : World) (K : PySem.W.Frag) (mg : Str → Option Value) (base : Heap) (C : Addr) (k : Nat) (m : Str) (n : Nat) (S : DSp) (ks : List Str) (pick : List D → List D → List D) : Prop where
  ex : ∃ (f : Addr) (fd : FuncData) (ps : List Str) (g : List Value → List Value → List Value) (gV : List V → List V → List V), Cls K C ∧ Meth K C m f ∧ (m == ("parts" : Str)) = false ∧ FnOk P w K mg base CX0 k f fd ps (spD ⟨K, C⟩ n S) ∧ KBn K fd ps 1 ks g gV ∧ PickOk K C pick gV
structure COkK (P : Program) (w : World) (K : PySem.W.Frag) (mg : Str → Option Value) (base : Heap) (C : Addr) (k n : Nat) (S : DSp) (ks : List Str) (pick : List D → List D → List D) : Prop where
  ex : ∃ (f : Addr) (fd : FuncData) (ps : List Str) (g : List Value → List Value → List Value) (gV : List V → List V → List V), StX.CallO K C f ∧ FnOk P w K mg base CX0 k f fd ps (spD ⟨K, C⟩ n S) ∧ KBn K fd ps 1 ks g gV ∧ PickOk K C pick gV
structure CMKOk (P : Program) (w : World) (K : PySem.W.Frag) (mg : Str → Option Value) (base : Heap) (C : Addr) (k : Nat) (m : Str) (n : Nat) (S : DSp) (ks : List Str) (pick : List D → List D → List D) : Prop where
  ex : ∃ (mc : Value) (p f : Addr) (fd : FuncData) (ps : List Str) (g : List Value → List Value → List Value) (gV : List V → List V → List V), ClX.CRead K C mc ∧ ClX.CMet K C mc m p f ∧ FnOk P w K mg base CX0 k f fd ps (spD ⟨K, C⟩ n S) ∧ KBn K fd ps 1 ks g gV ∧ PickOk K C pick gV
structure LMkK (P : Program) (w : World) (K : PySem.W.Frag) (mg : Str → Option Value) (base : Heap) (C : Addr) (k : Nat) (ks : List Str) (iy : List Nat) : Prop where
  ex : ∃ (f : Addr) (fd : FuncData) (ps : List Str) (g : List Value → List Value → List Value) (gV : List V → List V → List V), mg "Line" = some (.ref C) ∧ Mk K C f ∧ FnOk P w K mg base CX0 k f fd ps (spLn C) ∧ KBn K fd ps 1 ks g gV ∧ ∀ x a b c : V, gV [x] [a, b, c] = x :: pickL iy [a, b, c] []
end
section
variable {P : Program} {w : World} {K : PySem.W.Frag} {mg : Str → Option Value} {base : Heap} {x qual : Str} {params : Arguments} {body : List Stmt} {scope : Scope} {kws : List (Str × V)} {f : Addr} {fd : FuncData} {ps : List Str}
end
section
variable {α : Type} {a b c d : α}
theorem pkm1 : pickL [0, 1] [a] [b] = [a, b] := id rfl
theorem pkm2 : pickL [0, 2, 3, 1] [a] [b, c, d] = [a, c, d, b] := id rfl
theorem pkm3 : pickL [0, 3, 1, 2] [a] [b, c, d] = [a, d, b, c] := id rfl
theorem pkm4 : pickL [0, 3, 2, 1] [a] [b, c, d] = [a, d, c, b] := id rfl
theorem pkm5 : pickL [0, 1, 3, 2] [a] [b, c, d] = [a, b, d, c] := id rfl
theorem pkm6 : pickL [1, 2, 0] [a, b, c] [] = [b, c, a] := id rfl
end
end Dl
namespace Dl
open PySem L2
def keyD : D → Option Key
  | .int i => some (.inl i)
  | .str x => some (.inr x)
  | _ => none
def dVal {α : Type} (ks : List Key) (ds : List α) (k : Key) : Option α := ((ks.zip ds).find? fun p => decide (p.1 = k)).map (·.2)
def dctI (M : Mem) : D → Option (List Key × List D)
  | .dct ks ds => some (ks, ds)
  | .own a => (match M a with
    | some (.dct ks ds) => some (ks, ds)
    | some (.lck _ _ ks ds) => some (ks, ds)
    | _ => none)
  | _ => none
theorem dctI_dct {M : Mem} {ks : List Key} {ds : List D} : dctI M (.dct ks ds) = some (ks, ds) := id rfl
theorem dctI_own {M : Mem} {a : Addr} {ks : List Key} {ds : List D} (h : M a = some (.dct ks ds)) : dctI M (.own a) = some (ks, ds) := by
  show (match M a with
    | some (.dct ks ds) => some (ks, ds)
    | some (.lck _ _ ks ds) => some (ks, ds)
    | _ => none) = _
  rw [h]
theorem dctI_same {M : Mem} {a : Addr} {ks : List Key} {ds : List D} : dctI (mset M a (.dct ks ds)) (.own a) = some (ks, ds) := dctI_own mset_same
section
variable {X : Cx} {C : Addr} {j : Nat} {o i e : Expr} {vo vi ve : DE} {pos apos p : Pos}
def oLenD : DC := fun ds M R => match ds with
  | [d] => (match dctI M d with
    | some (ks, _) => R (.int ks.length) M
    | none => False)
  | _ => False
def oInDct (f : Bool → Bool) : DO := fun d e M R => match keyD d, dctI M e with
  | some k, some (ks, ds) => R (.bl (f (dVal ks ds k).isSome)) M
  | _, _ => False
def oDict : DC := fun ds M R => match ds with
  | [d] => (match dctI M d with
    | some (ks, es) => R (.dct ks es) M
    | none => False)
  | _ => False
def oDictO : DC := fun ds M R => match ds with
  | [d] => (match dctI M d with
    | some (ks, es) => pureL es = true ∧ ∀ p, M p = none → R (.own p) (mset M p (.dct ks es))
    | none => False)
  | _ => False
end
end Dl
namespace Dl
open PySem L2
theorem okF_dct {M : Mem} {ks : List Key} {i : List D} : okF M (.dct ks i) = True := id rfl
theorem okF_ln {M : Mem} {t p o : Int} : okF M (.ln t p o) = True := id rfl
theorem fldD_dct {ks : List Key} {i : List D} : fldD (.dct ks i) = pureL i := id rfl
section
variable {X : Cx} {C : Addr} {o : Expr} {vo : DE} {pos apos cpos p : Pos}
end
section
variable {X : Cx} {C : Addr} {tg e : Expr} {ve : DE}
end
section
variable {X : Cx} {C : Addr} {pos : Pos}
end
end Dl
namespace Dl
open PySem L2
def spV (G : Gx) (nmax : Nat) (S : DSp) : Sp := fun vs H Q _ => ∃ (d : D) (es : List D) (M : Mem) (R : DR), es.length ≤ nmax ∧ IsL G M H (d :: es) vs ∧ Own G M H ∧ S [d, .tup es] M R noX ∧
  ∀ d M' x H', Own G M' H' → Is G M' H' d x → Ext M M' H H' → R d M' → Q x H'
section
variable {P : Program} {w : World} {K : PySem.W.Frag} {mg : Str → Option Value} {base : Heap} {x qual : Str} {params : Arguments} {body : List Stmt} {scope : Scope} {kws : List (Str × V)} {f : Addr} {fd : FuncData}
end
structure MVOk (P : Program) (w : World) (K : PySem.W.Frag) (mg : Str → Option Value) (base : Heap) (C : Addr) (k : Nat) (c m : Str) (nmax : Nat) (S : DSp) : Prop where
  ex : ∃ (f : Addr), OCls K c ∧ Meth K (He.ga K c) m f ∧ m ∉ clsF c ∧ FnR P w K mg base CX0 k f (spV ⟨K, C⟩ nmax S)
section
variable {X : Cx} {C : Addr} {j k nmax : Nat} {S : DSp} {o e : Expr} {es : List Expr} {vo : DE} {va : DA} {c m : Str} {pos apos : Pos}
end
theorem f_lenDc {ks : List Key} {ds : List D} {M : Mem} {R : DR} : oLenD [.dct ks ds] M R = R (.int ks.length) M := id rfl
theorem f_inDc {f : Bool → Bool} {x : Str} {ks : List Key} {ds : List D} {M : Mem} {R : DR} : oInDct f (.str x) (.dct ks ds) M R = R (.bl (f (dVal ks ds (.inr x)).isSome)) M := id rfl
theorem f_dictc {ks : List Key} {ds : List D} {M : Mem} {R : DR} : oDict [.dct ks ds] M R = R (.dct ks ds) M := id rfl
theorem f_dictOc {ks : List Key} {ds : List D} {M : Mem} {R : DR} : oDictO [.dct ks ds] M R = (pureL ds = true ∧ ∀ p, M p = none → R (.own p) (mset M p (.dct ks ds))) := id rfl
theorem k_str {x : Str} : keyD (.str x) = some (.inr x) := id rfl
theorem k_int {x : Int} : keyD (.int x) = some (.inl x) := id rfl
def oEqNO (f : Bool → Bool) : DO := fun d e M R => match d, e with
  | .own a, .lst [] => (match M a with
    | some (.lst ds) => R (.bl (f ds.isEmpty)) M
    | _ => False)
  | _, _ => False
theorem f_eqNO {f : Bool → Bool} {a : Addr} {M : Mem} {R : DR} : oEqNO f (.own a) (.lst []) M R = (match M a with
    | some (.lst ds) => R (.bl (f ds.isEmpty)) M
    | _ => False) := id rfl
def oIsF (f : Bool → Bool) : DO := fun d e M R => match d, e with
  | .bl a, .bl false => R (.bl (f (!a))) M
  | _, _ => False
theorem f_isF {f : Bool → Bool} {a : Bool} {M : Mem} {R : DR} : oIsF f (.bl a) (.bl false) M R = R (.bl (f (!a))) M := id rfl
section
variable {X : Cx} {C : Addr}
end
end Dl
namespace Dl
open PySem L2 Builtin Builtin.List
structure RmU (j d : Nat) (A : Around) : Prop where
  hd : A.handled = none
  dp : A.depth + d + 3 * j + 5 < recursionLimit
  un : A.units + d + 16 * j + 200 < cLine
theorem RmU.room {j d : Nat} {A : Around} (r : RmU j d A) : Room j A := ⟨r.hd, by have := r.dp; omega, by have := r.un; omega⟩
theorem RmU.units {j d : Nat} {A : Around} (r : RmU j d A) : A.units + d < cLine := by have := r.un; omega
theorem RmU.le {j d e : Nat} {A : Around} (r : RmU j d A) (h : e ≤ d) : RmU j e A := ⟨r.hd, by have := r.dp; omega, by have := r.un; omega⟩
theorem RmU.bi {j d : Nat} {A : Around} {id : String} (r : RmU j (d + 1) A) (args : Args) (hu : (A.under (.builtin id args)).units = A.units + 1) (hw : (Code.builtin id args).weight = 1) : RmU j d (A.under (.builtin id args)) :=
  ⟨by first | exact r.hd | (simpa [Around.under] using r.hd), by have := r.dp; simp [Around.under, hw]; omega, by rw [hu]; have := r.un; omega⟩
theorem RmU.loop {j d : Nat} {A : Around} (r : RmU j (d + 1) A) (args : Args) : RmU j d (A.under (.builtin "list.__repr__.loop" args)) :=
  r.bi args (units_under_list_loop _ _) (by simp [Code.weight, isGuard_list_loop, Code.frames, Code.isCreation, Code.isCaller, Code.isFrame])
theorem RmU.tup {j d : Nat} {A : Around} (r : RmU j (d + 1) A) (args : Args) : RmU j d (A.under (.builtin "tuple.__repr__" args)) :=
  r.bi args (units_under_tuple_repr _ _) (by simp [Code.weight, isGuard_tuple_repr, Code.frames, Code.isCreation, Code.isCaller, Code.isFrame])
theorem RmU.tupU {j d : Nat} {A : Around} (r : RmU j (d + 1) A) (args : Args) : RmU j d (A.under (.builtin "tuple.__repr__.under" args)) :=
  r.bi args (units_under_tuple_repr_under _ _) (by simp [Code.weight, isGuard_tuple_repr_under, Code.frames, Code.isCreation, Code.isCaller, Code.isFrame])
theorem frames_bi {A : Around} {id : String} {args : Args} {l : Option (List Env)} (h : A.frames = l) : (A.under (.builtin id args)).frames = l := by
  first | exact h | (simpa [Around.under, Code.envs, Code.isFrame, pushEnvs] using h)
def ReprU (X : Cx) (C : Addr) (M : Mem) (H : Hp) (j : Nat) (as : List Addr) (d : Nat) (v : V) (t : Str) : Prop :=
  ∀ (u : Value), RelV v u → ∀ (base : Nat), base + t.length ≤ sizeLine → ∀ (A : Around) (g : List Code) (E : Value → Shared → Prop) (pins : List (Addr × Obj)) (σ : St) (s : Shared) (H1 : Hp) (Q : Str → Shared → Prop),
    A.guards = some g → (∀ b ∈ as, Clear g b) → A.frames = X.A.frames → RmU j d A → Ext M M H H1 → Own ⟨X.K, C⟩ M H1 → Inv X pins σ H1 s →
    (∀ H2 s', Ext M M H1 H2 → Own ⟨X.K, C⟩ M H2 → Inv X pins σ H2 s' → Q t s') → wpAny (model X.prog X.w) A (pyReprUnder base u) Q E s
section
variable {X : Cx} {C : Addr} {M : Mem} {H : Hp} {j d : Nat} {as : List Addr} {v : V} {t : Str}
theorem ReprU.more {as' : List Addr} (h : ReprU X C M H j as d v t) (hs : ∀ b ∈ as, b ∈ as') : ReprU X C M H j as' d v t :=
  fun u r base hb A g E pins σ s H1 Q hg hc hf hr hx ho I k => h u r base hb A g E pins σ s H1 Q hg (fun b hb => hc b (hs b hb)) hf hr hx ho I k
theorem ReprU.level {d' : Nat} (h : ReprU X C M H j as d v t) (hd : d ≤ d') : ReprU X C M H j as d' v t :=
  fun u r base hb A g E pins σ s H1 Q hg hc hf hr hx ho I k => h u r base hb A g E pins σ s H1 Q hg hc hf (hr.le hd) hx ho I k
theorem ReprU.of_is (h : ∀ u, RelV v u → ReprIs X.prog X.w u t) : ReprU X C M H j as d v t :=
  fun u r base hb A g E pins σ s H1 Q _ _ _ _ _ ho I k => h u r base hb A E s Q fun tk => k H1 _ Ext.refl ho (I.tok tk)
theorem ReprU.line {k : Nat} {S : DSp} (h : UOk X.prog X.w X.K X.mg X.base C k "__repr__" 1 S) (hkj : k ≤ j) {x : D} (hl : isLn x = true) (i : Is ⟨X.K, C⟩ M H x v) (hs : S [x] M (fun e M' => e = .str t ∧ M' = M) noX) : ReprU X C M H j as d v t := by
  obtain ⟨f, fd, ps, hm, hf, F, hb⟩ := h.ex
  intro u r base hz A g E pins σ s H1 Q hg _ hfr hr hx ho I hQ
  have i1 := Is.ext hx _ _ i
  obtain ⟨a, dx, q, rfl, ha⟩ := ln_at i1 hl
  obtain rfl : u = Value.ref a := r
  obtain ⟨ox, od, J⟩ := inst_at I ha
  obtain ⟨m, Fr⟩ := inv_fr I
  have XX := I.ok.mod.kin.keeps Fr.keep
  have hsp : spD ⟨X.K, C⟩ 1 S [V.ref a] H1 (fun v H' => v = .str t ∧ Ext M M H1 H' ∧ Own ⟨X.K, C⟩ M H') E0 := ⟨[x], M, _, rfl, IsL.cons i1 IsL.nil, ho, hs, fun d' M' y H' o' i' e' h' => by
    obtain ⟨rfl, rfl⟩ := h'
    unfold Is at i'
    exact ⟨i', e', o'⟩⟩
  refine wpAny_pyReprUnder_ref (by omega) ?_
  unfold pyReprObjUnder pyReprObjBy
  refine wpAny_bind (wpAny_cRoomFor (by have := hr.un; omega) ?_)
  refine wpAny_bind (wpAny_bind (J.type.here ((PySem.W.looks_findIn XX hm).here ?_)))
  show wpAny _ _ (if (some (Value.ref f)).isNone = true then _ else _) _ _ _
  rw [if_neg (by simp)]
  have main : wpAny (model X.prog X.w) A (call (.ref f) [.ref a]) (fun w s' => ∃ u, w = .str t u ∧ Q t s') E s := by
    have b := hb s [.ref a] I.kIn (by have := F.len _ _ _ _ hsp; exact this)
    rw [List.append_nil] at b
    have e0 : Env0 X.prog X.w X.K X.mg X.base A X.stack s H1 := ⟨by rw [hfr]; exact I.ok.frames, I.ok.mod, I.bs, Nat.le_trans I.ok.bsz I.sz, I.stack, I.stkFree, I.hok, I.bare⟩
    refine wpAny_call (codeAny_mono (F.run A X.stack s H1 ⟨[.ref a], []⟩ [.ref a] [V.ref a] _ E0 (hr.room.mono hkj) e0 b (.cons rfl .nil) hsp) fun z s' hz => ?_)
    match z, hz with
    | .error u, hz => exact hz.elim
    | .ok (.ret u), hz =>
      obtain ⟨v, H', I', rv, rfl, e', o'⟩ := I.after hz
      obtain ⟨tk, rfl⟩ := rv
      exact ⟨tk, rfl, hQ H' s' e' o' I'⟩
    | .ok .next, hz => exact hz.elim
    | .ok .brk, hz => exact hz.elim
    | .ok .cont, hz => exact hz.elim
  have back : wpAny (model X.prog X.w) A (callSpecialIfBoundBy? (fun g first => match reprUnder? g, first with
    | some twin, [self] => call twin [self, rawInt base]
    | _, _ => call g (first ++ [])) (.ref a) (Str.ofString "__repr__")) (fun r s' => ∃ u, r = some (.str t u) ∧ Q t s') E s := by
    simp only [callSpecialIfBoundBy?, bindSpecialIfBound?]
    refine wpAny_holding (wpAny_bind (wpAny_bind (wpAny_bind (J.type.here ((PySem.W.looks_findIn XX hm).here ?_)))))
    refine wpAny_bind (wpAny_askSetting (wpAny_ite ?_))
    have fin : wpAny (model X.prog X.w) A (call (.ref f) ([.ref a] ++ []) >>= fun v => pure (some v)) (fun r s' => ∃ u, r = some (.str t u) ∧ Q t s') E s := wpAny_bind (wpAny_mono main (fun w s' ⟨u, e, q⟩ => wpAny_pure ⟨u, by rw [e], q⟩) fun _ _ h' => h')
    split
    · exact wpAny_bind ((PySem.W.bind_fn XX _ (beq_iff_eq.mp hf)).here (wpAny_pure (by exact fin)))
    · exact wpAny_tryCatch (wpAny_bind ((PySem.W.bind_fn XX _ (beq_iff_eq.mp hf)).here (wpAny_pure (by exact fin))))
  refine wpAny_bind (wpAny_mono back (fun r s' hr' => ?_) fun _ _ h' => h')
  obtain ⟨u, rfl, q⟩ := hr'
  exact wpAny_bind (wpAny_isInstance (T := "str") (b := true) rfl isSubtype_str_str (wpAny_pure ⟨t, u, rfl, q⟩))
inductive ReprUs (X : Cx) (C : Addr) (M : Mem) (H : Hp) (j : Nat) (as : List Addr) (d : Nat) : List V → List Str → Prop
  | nil : ReprUs X C M H j as d [] []
  | cons {v : V} {t : Str} {vs : List V} {ts : List Str} : ReprU X C M H j as d v t → ReprUs X C M H j as d vs ts → ReprUs X C M H j as d (v :: vs) (t :: ts)
theorem ReprUs.length_eq : ∀ {vs : List V} {ts : List Str}, ReprUs X C M H j as d vs ts → ts.length = vs.length
  | _, _, .nil => rfl
  | _, _, .cons _ h => by simp [h.length_eq]
theorem ReprUs.more {as' : List Addr} {d' : Nat} (hs : ∀ b ∈ as, b ∈ as') (hd : d ≤ d') : ∀ {vs : List V} {ts : List Str}, ReprUs X C M H j as d vs ts → ReprUs X C M H j as' d' vs ts
  | _, _, .nil => .nil
  | _, _, .cons a h => .cons ((a.more hs).level hd) (h.more hs hd)
theorem ReprUs.item : ∀ {vs : List V} {ts : List Str}, ReprUs X C M H j as d vs ts → ∀ (i : Nat) (v : V), vs[i]? = some v → ∃ t, ts[i]? = some t ∧ ReprU X C M H j as d v t
  | _, _, .nil, _, _, e => by simp at e
  | _, _, .cons hx _, 0, _, e => by
    simp at e
    subst e
    exact ⟨_, rfl, hx⟩
  | _, _, .cons _ hl, i + 1, y, e => by
    obtain ⟨t, ht, hk⟩ := hl.item i y (by simpa using e)
    exact ⟨t, by simpa using ht, hk⟩
theorem tupFoldU {E : Value → Shared → Prop} {A : Around} {g : List Code} {pins : List (Addr × Obj)} {σ : St} (hg : A.guards = some g) (hcl : ∀ b ∈ as, Clear g b) (hf : A.frames = X.A.frames) (hr : RmU j d A) :
    ∀ (vs : List V) (us : List Value) (ts : List Str) (acc : Array Str) (n : Nat) (s : Shared) (H1 : Hp) (Q : (Array Str × Nat) → Shared → Prop), ReprUs X C M H j as d vs ts → Vals vs us → n + piled ts ≤ sizeLine → Ext M M H H1 → Own ⟨X.K, C⟩ M H1 → Inv X pins σ H1 s →
    (∀ H2 s', Ext M M H1 H2 → Own ⟨X.K, C⟩ M H2 → Inv X pins σ H2 s' → Q ⟨acc ++ ts.toArray, n + piled ts⟩ s') →
    wpAny (model X.prog X.w) A (forIn us (⟨acc, n⟩ : (Array Str × Nat)) tupBody) Q E s := by
  intro vs
  induction vs with
  | nil =>
    intro us ts acc n s H1 Q hT hv _ hx ho I h
    cases hT
    cases hv
    have h0 := h H1 s Ext.refl ho I
    simp only [List.forIn_nil]
    exact wpAny_pure (by simpa [piled] using h0)
  | cons v vs ih =>
    intro us ts acc n s H1 Q hT hv hn hx ho I h
    cases hT with
    | cons ha hl =>
      cases hv with
      | cons rv rl =>
      rename_i t ts' u us'
      rw [piled_cons] at hn
      rw [List.forIn_cons]
      refine wpAny_bind (wpAny_bind (ha u rv (n + 1) (by omega) A g E pins σ s H1 _ hg hcl hf hr hx ho I fun H2 s2 hx2 ho2 I2 => wpAny_pure ?_))
      refine ih us' ts' (acc.push t) (n + (t.length + 2)) s2 H2 Q hl rl (by omega) (hx.trans hx2) ho2 I2 fun H3 s3 hx3 ho3 I3 => ?_
      have h1 := h H3 s3 (hx2.trans hx3) ho3 I3
      have e : n + piled (t :: ts') = n + (t.length + 2) + piled ts' := by rw [piled_cons]; omega
      rw [e] at h1
      simpa using h1
theorem tupleAtU {a : Addr} {xs : List V} {ts : List Str} (hM : M a = none) (hH : H a = some (.tup xs)) (hna : a ∉ as) (hT : ReprUs X C M H j as d xs ts)
    {A : Around} {g : List Code} {pins : List (Addr × Obj)} {σ : St} {s : Shared} {H1 : Hp} {R : Result → Shared → Prop} {base : Nat} {id : String} {rest : List Value}
    (hcg : (Code.builtin id ⟨.ref a :: rest, []⟩).isGuard = true) (hcu : RmU j d (A.under (.builtin id ⟨.ref a :: rest, []⟩)))
    (hg : A.guards = some g) (hcl : ∀ b ∈ a :: as, Clear g b) (hf : A.frames = X.A.frames) (hx : Ext M M H H1) (ho : Own ⟨X.K, C⟩ M H1) (I : Inv X pins σ H1 s)
    (hR : ∀ H2 s' u, Ext M M H1 H2 → Own ⟨X.K, C⟩ M H2 → Inv X pins σ H2 s' → R (.ok (.ret (.str (tupleText ts) u))) s')
    (hsz : base + (tupleText ts).length ≤ sizeLine) :
    wpOwn (model X.prog X.w) A (.builtin id ⟨.ref a :: rest, []⟩) (Builtin.tupleReprAt base ⟨[.ref a], []⟩) (fun fin s' => match fin with | .done f => R (.ok f) s' | .again c' => c'.quiet = true ∧ codeAny (model X.prog X.w) A c' R s') (fun e s' => R (.error e) s') s := by
  have hca : Clear g a := hcl a (.head _)
  obtain ⟨its, rv, ⟨o, ha, hc, n, hd⟩, _⟩ := I.tuple (show SqT X.K H1 a xs from .inl (.inl (hx.st a _ hM hH).1))
  have hlen : ts.length = its.length := by rw [hT.length_eq]; exact rv.length
  have hp := piled_le_tupleText ts
  have hsz0 : (tupleText ts).length ≤ sizeLine := by omega
  rw [tuple_repr_tree, tupleReprUnderWay_eq]
  refine wpOwn_bind (wpOwn_stackTailAny hg (tupGuardF_off _) (tupGuardF_pos _) ?_)
  have hn : (g.any fun c => tupGuardF (.ref a) (c, default)) = false := by
    rw [List.any_eq_false]
    intro c hcm
    rw [tupGuardF_of_clear hca c hcm]
    exact Bool.false_ne_true
  rw [hn]
  refine wpOwn_of_wpAny ?_
  show wpAny _ _ (tupleReprRest base (.ref a)) _ _ s
  unfold tupleReprRest Builtin.Tuple.tupleItemsOf
  refine wpAny_bind (wpAny_bind (wpAny_seqItems ha hd (wpAny_pure ?_)))
  rw [← Array.forIn_toList]
  refine wpAny_bind (tupFoldU (guards_under_guard hcg hg) (fun b hb => (hcl b (.tail _ hb)).cons (a := a) fun e => hna (e ▸ hb)) (frames_bi hf) hcu xs its ts _ _ s H1 _ hT rv (by omega) hx ho I fun H2 s2 hx2 ho2 I2 => ?_)
  refine wpAny_bind (wpAny_mkStr (wpAny_pure ?_) (by simpa [tupleText, hlen] using hsz0))
  have h1 := hR H2 { s2 with toks := s2.toks + 1 } s2.toks hx2 ho2 (I2.tok _)
  simpa [tupleText, hlen] using h1
theorem tuple_underU {a : Addr} {xs : List V} {ts : List Str} (hM : M a = none) (hH : H a = some (.tup xs)) (hna : a ∉ as) (hT : ReprUs X C M H j as d xs ts)
    {A : Around} {g : List Code} {pins : List (Addr × Obj)} {σ : St} {s : Shared} {H1 : Hp} {E : Value → Shared → Prop} {Q : Value → Shared → Prop} {base : Nat}
    (hg : A.guards = some g) (hcl : ∀ b ∈ a :: as, Clear g b) (hf : A.frames = X.A.frames) (hr : RmU j (d + 1) A) (hx : Ext M M H H1) (ho : Own ⟨X.K, C⟩ M H1) (I : Inv X pins σ H1 s)
    (hQ : ∀ H2 s' u, Ext M M H1 H2 → Own ⟨X.K, C⟩ M H2 → Inv X pins σ H2 s' → Q (.str (tupleText ts) u) s')
    (hsz : base + (tupleText ts).length ≤ sizeLine) :
    wpAny (model X.prog X.w) A (call (.builtin "tuple.__repr__.under") [.ref a, rawInt base]) Q E s := by
  obtain ⟨its, rv, ⟨o, ha, hc, n, hd⟩, _⟩ := I.tuple (show SqT X.K H1 a xs from .inl (.inl (hx.st a _ hM hH).1))
  exact call_twin_own (F.quiet_tuple_repr_under _) F.entry_tuple_repr_under F.check_tuple_repr_under ⟨o, ha, hc⟩ F.slot_tuple_repr (F.args_tuple_repr_1 _)
    (tupleAtU (R := callEnd Q E) hM hH hna hT (isGuard_tuple_repr_under _) (hr.tupU _) hg hcl hf hx ho I hQ hsz)
theorem ReprU.tuple {a : Addr} {xs : List V} {ts : List Str} (hM : M a = none) (hH : H a = some (.tup xs)) (hna : a ∉ as) (hT : ReprUs X C M H j as d xs ts) : ReprU X C M H j (a :: as) (d + 1) (.ref a) (tupleText ts) := by
  intro u r base hb A g E pins σ s H1 Q hg hcl hf hr hx ho I hQ
  obtain rfl : u = Value.ref a := r
  obtain ⟨its, rv, ⟨o, ha, hc, n, hd⟩, _⟩ := I.tuple (show SqT X.K H1 a xs from .inl (.inl (hx.st a _ hM hH).1))
  refine wpAny_pyReprUnder_ref (by omega) ?_
  exact wpAny_pyReprObjUnder_twin (twin := "tuple.__repr__.under") ⟨o, ha, hc⟩ F.slot_tuple_repr rfl (by have := hr.un; omega)
    (tuple_underU hM hH hna hT hg hcl hf hr hx ho I (fun H2 s' u e o' I' => ⟨⟨_, _, rfl⟩, _, _, rfl, hQ H2 s' e o' I'⟩) hb)
theorem tuple_callU {a : Addr} {xs : List V} {ts : List Str} (hM : M a = none) (hH : H a = some (.tup xs)) (hna : a ∉ as) (hT : ReprUs X C M H j as d xs ts)
    {A : Around} {g : List Code} {pins : List (Addr × Obj)} {σ : St} {s : Shared} {H1 : Hp} {E : Value → Shared → Prop} {Q : Value → Shared → Prop}
    (hg : A.guards = some g) (hcl : ∀ b ∈ a :: as, Clear g b) (hf : A.frames = X.A.frames) (hr : RmU j (d + 1) A) (hx : Ext M M H H1) (ho : Own ⟨X.K, C⟩ M H1) (I : Inv X pins σ H1 s)
    (hQ : ∀ H2 s' u, Ext M M H1 H2 → Own ⟨X.K, C⟩ M H2 → Inv X pins σ H2 s' → Q (.str (tupleText ts) u) s')
    (hsz : (tupleText ts).length ≤ sizeLine) : wpAny (model X.prog X.w) A (call (.builtin "tuple.__repr__") [.ref a]) Q E s := by
  obtain ⟨its, rv, ⟨o, ha, hc, n, hd⟩, _⟩ := I.tuple (show SqT X.K H1 a xs from .inl (.inl (hx.st a _ hM hH).1))
  exact wpAny_call (codeAny_call_builtin_own (Code.quiet_builtin _ (by decide +kernel)) F.entry_tuple_repr (F.slot_tuple_repr.check _ _ _ _ _ _ _ _ ⟨o, ha, hc⟩ (F.args_tuple_repr_1 _)
    (tupleAtU (base := 0) (R := callEnd Q E) hM hH hna hT (isGuard_tuple_repr _) (hr.tup _) hg hcl hf hx ho I hQ (by omega))))
def pileO (acc : Array Value) (c : Nat) : Obj := { cls := .type "list", dict := none, data := .seq acc c, slots := #[] }
theorem list_loopU {a P : Addr} {xs : List V} {ts : List Str} (hM : M a = none) (hH : H a = some (.lst xs)) (hna : a ∉ as) (hT : ReprUs X C M H j as d xs ts)
    {A : Around} {g : List Code} {pins : List (Addr × Obj)} {σ : St} {base : Nat} {R : Result → Shared → Prop}
    (hg : A.guards = some g) (hcl : ∀ b ∈ as, Clear g b) (hf : A.frames = X.A.frames) (hr : RmU j (d + 1) A)
    (hP1 : X.s_0.heap.objs.size ≤ P) (hP3 : ∀ p ∈ X.pn ++ pins, p.1 ≠ P) (hPL : P ≠ X.env.locals) (hPf : P ∉ X.fs)
    (hsz : base + (listText ts).length ≤ sizeLine) :
    ∀ (k i : Nat) (s : Shared) (H1 : Hp) (acc : Array Value) (c : Nat) (done : List (Str × Tok)), xs.length - i = k → i ≤ xs.length → Ext M M H H1 → Own ⟨X.K, C⟩ M H1 → Inv X ((P, pileO acc c) :: pins) σ H1 s →
    acc.toList = strValues done → done.map (·.1) = ts.take i →
    (∀ H2 s' u, Ext M M H1 H2 → Own ⟨X.K, C⟩ M H2 → Inv X pins σ H2 s' → R (.ok (.ret (.str (listText ts) u))) s') →
    codeAny (model X.prog X.w) A (.builtin "list.__repr__.loop" ⟨[.ref a, rawInt i, .ref P, rawInt ((base + piled (ts.take i) : Nat) : Int)], []⟩) R s := by
  have hlen := hT.length_eq
  have hX : (listText ts).length = (textFrom 0 "[" ts).length + 1 := by
    show (textFrom 0 "[" ts ++ "]").length = _
    rw [strLen_append]; rfl
  have hL := textFrom_len ts 0 "["
  have hsz1 : xs.length ≤ sizeLine := by
    have h1 := hL.1
    rw [if_neg (Nat.lt_irrefl 0)] at h1
    omega
  have hsz2 : ∀ t ∈ ts, t.length ≤ sizeLine := fun t ht => by
    have h2 := hL.2.1 t ht
    omega
  have hsz3 : (listText ts).length ≤ sizeLine := by omega
  have hp3 := piled_le_listText ts
  have unpin : ∀ {acc c s H1}, Inv X ((P, pileO acc c) :: pins) σ H1 s → Inv X pins σ H1 s := fun I => I.pins_of fun p hp => I.pin p (List.mem_append_right _ (List.mem_cons_of_mem _ hp))
  have atP : ∀ {acc c s H1}, Inv X ((P, pileO acc c) :: pins) σ H1 s → s.heap.get? P = some (pileO acc c) ∧ H1 P = none := fun I => by
    have := I.pin (P, _) (List.mem_append_right _ List.mem_cons_self)
    exact ⟨this.1, this.2.1⟩
  intro k
  induction k with
  | zero =>
    intro i s H1 acc c done hk hi hx ho I hacc hdone hR
    have hin : i = xs.length := by omega
    obtain ⟨its, rv, ⟨o, n, ha, hc, _, hd⟩, _⟩ := I.list (show SqL X.K H1 a xs from .inl (.inl (hx.st a _ hM hH).1))
    have il : its.length = xs.length := rv.length.symm
    refine codeAny_builtin F.entry_list_repr_loop ?_
    show wpAny _ _ («list.__repr__.loop» ⟨[.ref a, .int i 0, .ref P, .int ((base + piled (ts.take i) : Nat) : Int) 0], []⟩) _ _ s
    rw [repr_loop_tree]
    refine wpAny_bind (wpAny_listItems ha hd ?_)
    have hnone : its.toArray[(i : Int).toNat]? = none := by simp [hin, il]
    simp only [hnone]
    unfold reprEnd
    refine wpAny_bind (wpAny_listItems (atP I).1 rfl ?_)
    rw [hacc, repr_fold]
    refine wpAny_bind (wpAny_pure ?_)
    have hall : done.map (·.1) = ts := by rw [hdone, hin, ← hlen, List.take_length]
    rw [hall]
    refine wpAny_bind (wpAny_mkStr (wpAny_pure ?_) hsz3)
    exact hR H1 _ _ Ext.refl ho ((unpin I).tok _)
  | succ k ih =>
    intro i s H1 acc c done hk hi hx ho I hacc hdone hR
    have hlt : i < xs.length := by omega
    obtain ⟨its, rv, ⟨o, n, ha, hc, _, hd⟩, _⟩ := I.list (show SqL X.K H1 a xs from .inl (.inl (hx.st a _ hM hH).1))
    have il : its.length = xs.length := rv.length.symm
    obtain ⟨t, ht, hrep⟩ := hT.item i xs[i] (by simp [hlt])
    have hp1 := piled_take_succ ht
    have hp2 := piled_take_le ts (i + 1)
    obtain ⟨u, hu, rvi⟩ := rv.get (i := i) (x := xs[i]) (by simp [hlt])
    refine codeAny_builtin F.entry_list_repr_loop ?_
    show wpAny _ _ («list.__repr__.loop» ⟨[.ref a, .int i 0, .ref P, .int ((base + piled (ts.take i) : Nat) : Int) 0], []⟩) _ _ s
    rw [repr_loop_tree]
    refine wpAny_bind (wpAny_listItems ha hd ?_)
    have hsome : its.toArray[(i : Int).toNat]? = some u := by rw [Int.toNat_natCast, List.getElem?_toArray]; exact hu
    simp only [hsome]
    rw [Int.toNat_natCast]
    refine wpAny_bind (wpAny_holding (hrep u rvi (base + piled (ts.take i) + 1) (by omega) _ _ _ _ _ s H1 _ (guards_under_guard (isGuard_list_loop _) hg) (fun b hb => (hcl b hb).cons (a := a) fun e => hna (e ▸ hb)) (frames_bi hf) (hr.loop _) hx ho I fun H2 s2 hx2 ho2 I2 => ?_))
    refine wpAny_bind (wpAny_mkStr ?_ (hsz2 t (List.mem_of_getElem? ht)))
    refine wpAny_bind ?_
    show wpAny _ _ (updateSeq P _) _ _ _
    have hasz : acc.size ≤ sizeLine := by
      have e1 : acc.toList.length = acc.size := by simp
      have e2 : (strValues done).length = done.length := by simp [strValues]
      have e3 : done.length = (ts.take i).length := by rw [← hdone, List.length_map]
      have e4 : (ts.take i).length ≤ i := by rw [List.length_take]; omega
      rw [hacc] at e1; omega
    obtain ⟨gP, nP⟩ := atP I2
    refine wpAny_updateSeq gP rfl (wpAny_pure ⟨F.quiet_list_repr_loop _, ?_⟩) hasz
    have e1 : ((i : Int) + 1) = ((i + 1 : Nat) : Int) := by omega
    have e2 : base + piled (ts.take i) + (t.length + 2) = base + piled (ts.take (i + 1)) := by omega
    rw [e1, e2]
    have cP : ∀ x c, X.env.cells.lookup x = some c → c ≠ P := fun x c' e z => by
      obtain ⟨v', o', ho', hd'⟩ := I2.cell x c' e
      rw [z, gP] at ho'
      cases ho'
      cases hd'
    obtain ⟨c', hc'⟩ : ∃ c', Obj.mapSeq (fun x => x.push (.str t s2.toks)) (pileO acc c) = pileO (acc.push (.str t s2.toks)) c' := ⟨_, rfl⟩
    refine ih (i + 1) _ H2 (acc.push (.str t s2.toks)) c' (done ++ [(t, s2.toks)]) (by omega) hlt (hx.trans hx2) ho2 (((unpin I2).turned (it := P) (t' := s2.toks + 1) (fun b o' hb e => (Heap.get?_update_other _ _ (fun h : P = b => hb h.symm)).trans e) nP hPL (.inr hP1) cP hP3).pins_of fun p hp => ?_) (by simp [hacc, strValues]) (by simp [List.take_add_one, ht, hdone]) fun H3 s3 u' hx3 ho3 I3 => hR H3 s3 u' (hx2.trans hx3) ho3 I3
    rcases List.mem_cons.mp hp with rfl | hp
    · exact ⟨(Heap.get?_update_self _ gP (by rw [hc']; rfl)).trans (congrArg some hc'), nP, hPL, hPf, fun v' z => by cases z⟩
    · obtain ⟨z1, z2, z3, z4, z5⟩ := I2.pin p (List.mem_append_right _ (List.mem_cons_of_mem _ hp))
      exact ⟨(Heap.get?_update_other _ _ (fun h : P = p.1 => hP3 p (List.mem_append_right _ hp) h.symm)).trans z1, z2, z3, z4, z5⟩
theorem listAtU {a : Addr} {v0 : V} {l : List V} {ts : List Str} (hM : M a = none) (hH : H a = some (.lst (v0 :: l))) (hna : a ∉ as) (hT : ReprUs X C M H j as d (v0 :: l) ts)
    {A : Around} {g : List Code} {pins : List (Addr × Obj)} {σ : St} {s : Shared} {H1 : Hp} {R : Result → Shared → Prop} {base : Nat}
    (hg : A.guards = some g) (hcl : ∀ b ∈ a :: as, Clear g b) (hf : A.frames = X.A.frames) (hr : RmU j (d + 1) A) (hx : Ext M M H H1) (ho : Own ⟨X.K, C⟩ M H1) (I : Inv X pins σ H1 s)
    (hR : ∀ H2 s' u, Ext M M H1 H2 → Own ⟨X.K, C⟩ M H2 → Inv X pins σ H2 s' → R (.ok (.ret (.str (listText ts) u))) s')
    (hsz : base + (listText ts).length ≤ sizeLine) :
    wpAny (model X.prog X.w) A.in1 (Builtin.listReprAt base ⟨[.ref a], []⟩) (fun fin s' => match fin with | .done f => R (.ok f) s' | .again c' => c'.quiet = true ∧ codeAny (model X.prog X.w) A c' R s') (fun e s' => R (.error e) s') s := by
  have hca : Clear g a := hcl a (.head _)
  obtain ⟨its, rv, ⟨o, n, ha, hc, _, hd⟩, _⟩ := I.list (show SqL X.K H1 a (v0 :: l) from .inl (.inl (hx.st a _ hM hH).1))
  cases rv with
  | cons r0 rl =>
  rename_i u0 us
  refine wpAny_list_repr_head (A := A.in1) hg (fun v rest kw hm => listSameRef_of_ne (hca _ _ _ _ hm)) ha hd ?_
  refine wpAny_bind (m := newList []) (wpAny_newObj_type ?_)
  refine wpAny_pure ⟨F.quiet_list_repr_loop _, ?_⟩
  have keep : ∀ b u, s.heap.get? b = some u → (s.heap.push (pileO #[] 0)).get? b = some u := fun b u e => Heap.get?_push_of_some _ e
  have lt : ∀ {b o}, s.heap.get? b = some o → b ≠ s.heap.objs.size := fun e => Nat.ne_of_lt (Heap.lt_size e)
  have I1 : Inv X pins σ H1 { s with heap := s.heap.push (pileO #[] 0) } := I.kept (t' := s.toks) keep
  have hPL : s.heap.objs.size ≠ X.env.locals := Nat.ne_of_gt I.lt
  have hPf : s.heap.objs.size ∉ X.fs := I.nofs (Nat.le_refl _)
  refine list_loopU (P := s.heap.objs.size) (pins := pins) (σ := σ) hM hH hna hT hg (fun b hb => hcl b (.tail _ hb)) hf hr I.sz (fun p hp => lt (I.pin p hp).1) hPL hPf hsz _ 0 _ H1 #[] 0 [] rfl (Nat.zero_le _) hx ho (I1.pins_of fun p hp => ?_) rfl (by simp) hR
  rcases List.mem_cons.mp hp with rfl | hp
  · exact ⟨Heap.get?_push_size _ rfl, I.hok.fresh (Nat.le_refl _), hPL, hPf, fun v' z => by cases z⟩
  · exact I1.pin p (List.mem_append_right _ hp)
theorem list_underU {a : Addr} {v0 : V} {l : List V} {ts : List Str} (hM : M a = none) (hH : H a = some (.lst (v0 :: l))) (hna : a ∉ as) (hT : ReprUs X C M H j as d (v0 :: l) ts)
    {A : Around} {g : List Code} {pins : List (Addr × Obj)} {σ : St} {s : Shared} {H1 : Hp} {E : Value → Shared → Prop} {Q : Value → Shared → Prop} {base : Nat}
    (hg : A.guards = some g) (hcl : ∀ b ∈ a :: as, Clear g b) (hf : A.frames = X.A.frames) (hr : RmU j (d + 1) A) (hx : Ext M M H H1) (ho : Own ⟨X.K, C⟩ M H1) (I : Inv X pins σ H1 s)
    (hQ : ∀ H2 s' u, Ext M M H1 H2 → Own ⟨X.K, C⟩ M H2 → Inv X pins σ H2 s' → Q (.str (listText ts) u) s')
    (hsz : base + (listText ts).length ≤ sizeLine) :
    wpAny (model X.prog X.w) A (call (.builtin "list.__repr__.under") [.ref a, rawInt base]) Q E s := by
  obtain ⟨its, rv, ⟨o, n, ha, hc, _, hd⟩, _⟩ := I.list (show SqL X.K H1 a (v0 :: l) from .inl (.inl (hx.st a _ hM hH).1))
  exact call_twin_plain F.plain_list_repr_under F.entry_list_repr_under F.check_list_repr_under ⟨o, ha, hc⟩ F.slot_list_repr.toG (F.args_list_repr_1 _)
    (listAtU (R := callEnd Q E) hM hH hna hT hg hcl hf hr hx ho I hQ hsz)
theorem ReprU.list {a : Addr} {v0 : V} {l : List V} {ts : List Str} (hM : M a = none) (hH : H a = some (.lst (v0 :: l))) (hna : a ∉ as) (hT : ReprUs X C M H j as d (v0 :: l) ts) : ReprU X C M H j (a :: as) (d + 1) (.ref a) (listText ts) := by
  intro u r base hb A g E pins σ s H1 Q hg hcl hf hr hx ho I hQ
  obtain rfl : u = Value.ref a := r
  obtain ⟨its, rv, ⟨o, n, ha, hc, _, hd⟩, _⟩ := I.list (show SqL X.K H1 a (v0 :: l) from .inl (.inl (hx.st a _ hM hH).1))
  refine wpAny_pyReprUnder_ref (by omega) ?_
  exact wpAny_pyReprObjUnder_twin (twin := "list.__repr__.under") ⟨o, ha, hc⟩ F.slot_list_repr.toG rfl (by have := hr.un; omega)
    (list_underU hM hH hna hT hg hcl hf hr hx ho I (fun H2 s' u e o' I' => ⟨⟨_, _, rfl⟩, _, _, rfl, hQ H2 s' e o' I'⟩) hb)
theorem ReprU.listEmpty {a : Addr} (hM : M a = none) (hH : H a = some (.lst [])) : ReprU X C M H j as (d + 1) (.ref a) "[]" := by
  intro u r base hb A g E pins σ s H1 Q hg hcl hf hr hx ho I hQ
  obtain rfl : u = Value.ref a := r
  obtain ⟨its, rv, ⟨o, n, ha, hc, _, hd⟩, _⟩ := I.list (show SqL X.K H1 a [] from .inl (.inl (hx.st a _ hM hH).1))
  cases rv
  exact wpAny_pyReprUnder_ref (by omega) (wpAny_pyReprObjUnder_list_empty ⟨o, ha, hc⟩ (by have := hr.un; omega) ha hd ⟨_, _, rfl, hQ H1 _ Ext.refl ho (I.tok _)⟩)
theorem list_callU {a : Addr} {v0 : V} {l : List V} {ts : List Str} (hM : M a = none) (hH : H a = some (.lst (v0 :: l))) (hna : a ∉ as) (hT : ReprUs X C M H j as d (v0 :: l) ts)
    {A : Around} {g : List Code} {pins : List (Addr × Obj)} {σ : St} {s : Shared} {H1 : Hp} {E : Value → Shared → Prop} {Q : Value → Shared → Prop}
    (hg : A.guards = some g) (hcl : ∀ b ∈ a :: as, Clear g b) (hf : A.frames = X.A.frames) (hr : RmU j (d + 1) A) (hx : Ext M M H H1) (ho : Own ⟨X.K, C⟩ M H1) (I : Inv X pins σ H1 s)
    (hQ : ∀ H2 s' u, Ext M M H1 H2 → Own ⟨X.K, C⟩ M H2 → Inv X pins σ H2 s' → Q (.str (listText ts) u) s')
    (hsz : (listText ts).length ≤ sizeLine) : wpAny (model X.prog X.w) A (call (.builtin "list.__repr__") [.ref a]) Q E s := by
  obtain ⟨its, rv, ⟨o, n, ha, hc, _, hd⟩, _⟩ := I.list (show SqL X.K H1 a (v0 :: l) from .inl (.inl (hx.st a _ hM hH).1))
  exact wpAny_call (codeAny_call_builtin F.slot_list_repr.plain F.entry_list_repr (F.slot_list_repr.check _ _ _ _ _ _ _ _ ⟨o, ha, hc⟩ (F.args_list_repr_1 _)
    (listAtU (base := 0) (R := callEnd Q E) hM hH hna hT hg hcl hf hr hx ho I hQ (by omega))))
end
end Dl
namespace Dl
open PySem L2 Builtin Builtin.List
mutual
def okX : D → Bool
  | .non => true
  | .bl _ => true
  | .int i => decide (i.natAbs.log2 < 1920)
  | .str _ => true
  | .tup ds => okXL ds
  | .lst ds => okXL ds
  | .ln _ _ _ => true
  | _ => false
def okXL : List D → Bool
  | [] => true
  | d :: ds => okX d && okXL ds
end
mutual
def depX : D → Nat
  | .tup ds => depXL ds + 1
  | .lst ds => depXL ds + 1
  | _ => 0
def depXL : List D → Nat
  | [] => 0
  | d :: ds => max (depX d) (depXL ds)
end
mutual
def lnsX : D → List (Int × Int × Int)
  | .tup ds => lnsXL ds
  | .lst ds => lnsXL ds
  | .ln t p o => [(t, p, o)]
  | _ => []
def lnsXL : List D → List (Int × Int × Int)
  | [] => []
  | d :: ds => lnsX d ++ lnsXL ds
end
mutual
def shX (txt : Int × Int × Int → Str) : D → Str
  | .non => "None"
  | .bl b => if b then "True" else "False"
  | .int i => toString i
  | .str x => reprText x
  | .tup ds => tupleText (shXL txt ds)
  | .lst ds => listText (shXL txt ds)
  | .ln t p o => txt (t, p, o)
  | _ => ""
def shXL (txt : Int × Int × Int → Str) : List D → List Str
  | [] => []
  | d :: ds => shX txt d :: shXL txt ds
end
section
variable {G : Gx} {M : Mem} {H : Hp}
mutual
theorem dep_det : ∀ (d e : D) (v : V), okX d = true → okX e = true → Is G M H d v → Is G M H e v → depX d = depX e
  | .tup ds, e, v, hd, he, i, k => by
    unfold Is at i
    obtain ⟨a, xs, rfl, m, h, l⟩ := i
    cases e with
    | tup es =>
      unfold Is at k
      obtain ⟨a', xs', ea, _, h', l'⟩ := k
      cases ea
      rw [h] at h'
      cases h'
      unfold depX
      rw [depL_det ds es xs (by simpa only [okX] using hd) (by simpa only [okX] using he) l l']
    | lst es =>
      unfold Is at k
      obtain ⟨a', xs', ea, _, h', l'⟩ := k
      cases ea
      rw [h] at h'
      cases h'
    | ln t p o =>
      unfold Is at k
      obtain ⟨a', _, _, ea, _, h', _⟩ := k
      cases ea
      rw [h] at h'
      cases h'
    | non => unfold Is at k; cases k
    | bl _ => unfold Is at k; cases k
    | int _ => unfold Is at k; cases k
    | str _ => unfold Is at k; cases k
    | _ => cases he
  | .lst ds, e, v, hd, he, i, k => by
    unfold Is at i
    obtain ⟨a, xs, rfl, m, h, l⟩ := i
    cases e with
    | lst es =>
      unfold Is at k
      obtain ⟨a', xs', ea, _, h', l'⟩ := k
      cases ea
      rw [h] at h'
      cases h'
      unfold depX
      rw [depL_det ds es xs (by simpa only [okX] using hd) (by simpa only [okX] using he) l l']
    | tup es =>
      unfold Is at k
      obtain ⟨a', xs', ea, _, h', l'⟩ := k
      cases ea
      rw [h] at h'
      cases h'
    | ln t p o =>
      unfold Is at k
      obtain ⟨a', _, _, ea, _, h', _⟩ := k
      cases ea
      rw [h] at h'
      cases h'
    | non => unfold Is at k; cases k
    | bl _ => unfold Is at k; cases k
    | int _ => unfold Is at k; cases k
    | str _ => unfold Is at k; cases k
    | _ => cases he
  | .ln t p o, e, v, hd, he, i, k => by
    unfold Is at i
    obtain ⟨a, dx, q, rfl, m, h, _⟩ := i
    cases e with
    | tup es =>
      unfold Is at k
      obtain ⟨a', xs', ea, _, h', l'⟩ := k
      cases ea
      rw [h] at h'
      cases h'
    | lst es =>
      unfold Is at k
      obtain ⟨a', xs', ea, _, h', l'⟩ := k
      cases ea
      rw [h] at h'
      cases h'
    | _ => rfl
  | .non, e, v, hd, he, i, k => by
    unfold Is at i
    subst i
    cases e with
    | tup es => unfold Is at k; obtain ⟨_, _, ea, _⟩ := k; cases ea
    | lst es => unfold Is at k; obtain ⟨_, _, ea, _⟩ := k; cases ea
    | _ => rfl
  | .bl b, e, v, hd, he, i, k => by
    unfold Is at i
    subst i
    cases e with
    | tup es => unfold Is at k; obtain ⟨_, _, ea, _⟩ := k; cases ea
    | lst es => unfold Is at k; obtain ⟨_, _, ea, _⟩ := k; cases ea
    | _ => rfl
  | .int n, e, v, hd, he, i, k => by
    unfold Is at i
    subst i
    cases e with
    | tup es => unfold Is at k; obtain ⟨_, _, ea, _⟩ := k; cases ea
    | lst es => unfold Is at k; obtain ⟨_, _, ea, _⟩ := k; cases ea
    | _ => rfl
  | .str x, e, v, hd, he, i, k => by
    unfold Is at i
    subst i
    cases e with
    | tup es => unfold Is at k; obtain ⟨_, _, ea, _⟩ := k; cases ea
    | lst es => unfold Is at k; obtain ⟨_, _, ea, _⟩ := k; cases ea
    | _ => rfl
  | .own _, _, _, hd, _, _, _ => by cases hd
  | .scr _, _, _, hd, _, _, _ => by cases hd
  | .exn _ _, _, _, hd, _, _, _ => by cases hd
  | .exn0 _, _, _, hd, _, _, _ => by cases hd
  | .dct _ _, _, _, hd, _, _, _ => by cases hd
  | .cls, _, _, hd, _, _, _ => by cases hd
theorem depL_det : ∀ (ds es : List D) (vs : List V), okXL ds = true → okXL es = true → IsL G M H ds vs → IsL G M H es vs → depXL ds = depXL es
  | [], es, vs, _, _, i, k => by
    cases vs with
    | cons _ _ => unfold IsL at i; exact i.elim
    | nil =>
      cases es with
      | nil => rfl
      | cons _ _ => unfold IsL at k; exact k.elim
  | d :: ds, es, vs, hd, he, i, k => by
    cases vs with
    | nil => unfold IsL at i; exact i.elim
    | cons v vs =>
      cases es with
      | nil => unfold IsL at k; exact k.elim
      | cons e es =>
        unfold IsL at i k
        simp only [okXL, Bool.and_eq_true] at hd he
        unfold depXL
        rw [dep_det d e v hd.1 he.1 i.1 k.1, depL_det ds es vs hd.2 he.2 i.2 k.2]
end
def AtM (G : Gx) (M : Mem) (H : Hp) (n : Nat) (bs : List Addr) : Prop := ∀ b ∈ bs, ∃ e, okX e = true ∧ Is G M H e (.ref b) ∧ depX e ≤ n
theorem AtM.not {n : Nat} {bs : List Addr} {a : Addr} {d : D} (h : AtM G M H n bs) (hd : okX d = true) (i : Is G M H d (.ref a)) (lt : n < depX d) : a ∉ bs := fun hm => by
  obtain ⟨e, he, k, l⟩ := h a hm
  have := dep_det d e _ hd he i k
  omega
end
section
variable {X : Cx} {C : Addr} {M : Mem} {H : Hp} {j : Nat} {txt : Int × Int × Int → Str}
mutual
theorem reprU_of {k : Nat} {S : DSp} (h : UOk X.prog X.w X.K X.mg X.base C k "__repr__" 1 S) (hkj : k ≤ j) : ∀ (d : D) (v : V), okX d = true → Is ⟨X.K, C⟩ M H d v → (∀ x ∈ lnsX d, S [.ln x.1 x.2.1 x.2.2] M (fun e M' => e = .str (txt x) ∧ M' = M) noX) → (shX txt d).length ≤ sizeLine →
    ∃ bs, AtM ⟨X.K, C⟩ M H (depX d) bs ∧ ReprU X C M H j bs (depX d) v (shX txt d)
  | .non, v, _, i, _, _ => ⟨[], (fun _ h => nomatch h), by unfold Is at i; subst i; simp only [shX]; exact .of_is fun u r => by cases r; exact ReprIs.none⟩
  | .bl b, v, _, i, _, _ => ⟨[], (fun _ h => nomatch h), by unfold Is at i; subst i; simp only [shX]; exact .of_is fun u r => by cases r; exact ReprIs.bool b⟩
  | .int n, v, o, i, _, _ => ⟨[], (fun _ h => nomatch h), by unfold Is at i; subst i; simp only [shX]; exact .of_is fun u r => by obtain ⟨t, rfl⟩ := r; exact ReprIs.int t (by simpa [okX] using o)⟩
  | .str x, v, _, i, _, z => ⟨[], (fun _ h => nomatch h), by unfold Is at i; subst i; simp only [shX] at z ⊢; exact .of_is fun u r => by obtain ⟨t, rfl⟩ := r; exact ReprIs.str x t z⟩
  | .ln t p o, v, _, i, hs, _ => ⟨[], (fun _ h => nomatch h), by simp only [shX]; exact ReprU.line h hkj (x := .ln t p o) rfl i (hs (t, p, o) (by simp [lnsX]))⟩
  | .tup ds, v, o, i, hs, z => by
    have i0 := i
    unfold Is at i
    obtain ⟨a, xs, rfl, m, ha, il⟩ := i
    have z' : (tupleText (shXL txt ds)).length ≤ sizeLine := by simpa only [shX] using z
    obtain ⟨bs, hb, hT⟩ := reprUs_of h hkj ds xs (by simpa only [okX] using o) il (by simpa only [lnsX] using hs) (fun t ht => Nat.le_trans (tupleText_mem_le ht) z')
    have dd : depX (.tup ds) = depXL ds + 1 := by simp only [depX]
    have na : a ∉ bs := hb.not o i0 (by omega)
    refine ⟨a :: bs, fun b hm => ?_, ?_⟩
    · rcases List.mem_cons.mp hm with rfl | hm
      · exact ⟨_, o, i0, Nat.le_refl _⟩
      · obtain ⟨e, q1, q2, q3⟩ := hb b hm
        exact ⟨e, q1, q2, by omega⟩
    · rw [dd]
      simp only [shX]
      exact ReprU.tuple m ha na hT
  | .lst ds, v, o, i, hs, z => by
    have i0 := i
    unfold Is at i
    obtain ⟨a, xs, rfl, m, ha, il⟩ := i
    have z' : (listText (shXL txt ds)).length ≤ sizeLine := by simpa only [shX] using z
    obtain ⟨bs, hb, hT⟩ := reprUs_of h hkj ds xs (by simpa only [okX] using o) il (by simpa only [lnsX] using hs) (fun t ht => Nat.le_trans (listText_mem_le ht) z')
    have dd : depX (.lst ds) = depXL ds + 1 := by simp only [depX]
    have na : a ∉ bs := hb.not o i0 (by omega)
    refine ⟨a :: bs, fun b hm => ?_, ?_⟩
    · rcases List.mem_cons.mp hm with rfl | hm
      · exact ⟨_, o, i0, Nat.le_refl _⟩
      · obtain ⟨e, q1, q2, q3⟩ := hb b hm
        exact ⟨e, q1, q2, by omega⟩
    · rw [dd]
      simp only [shX]
      generalize shXL txt ds = ts at hT
      cases hT with
      | nil => rw [listText_nil]; exact ReprU.listEmpty m ha
      | cons p q => exact ReprU.list m ha na (.cons p q)
  | .own _, _, o, _, _, _ => by cases o
  | .scr _, _, o, _, _, _ => by cases o
  | .exn _ _, _, o, _, _, _ => by cases o
  | .exn0 _, _, o, _, _, _ => by cases o
  | .dct _ _, _, o, _, _, _ => by cases o
  | .cls, _, o, _, _, _ => by cases o
theorem reprUs_of {k : Nat} {S : DSp} (h : UOk X.prog X.w X.K X.mg X.base C k "__repr__" 1 S) (hkj : k ≤ j) : ∀ (ds : List D) (vs : List V), okXL ds = true → IsL ⟨X.K, C⟩ M H ds vs → (∀ x ∈ lnsXL ds, S [.ln x.1 x.2.1 x.2.2] M (fun e M' => e = .str (txt x) ∧ M' = M) noX) → (∀ t ∈ shXL txt ds, t.length ≤ sizeLine) →
    ∃ bs, AtM ⟨X.K, C⟩ M H (depXL ds) bs ∧ ReprUs X C M H j bs (depXL ds) vs (shXL txt ds)
  | [], vs, _, i, _, _ => by
    cases vs with
    | nil => exact ⟨[], (fun _ h => nomatch h), by simp only [shXL]; exact .nil⟩
    | cons _ _ => unfold IsL at i; exact i.elim
  | d :: ds, vs, o, i, hs, z => by
    cases vs with
    | nil => unfold IsL at i; exact i.elim
    | cons v vs =>
      unfold IsL at i
      simp only [okXL, Bool.and_eq_true] at o
      obtain ⟨b1, h1, k1⟩ := reprU_of h hkj d v o.1 i.1 (fun x hx => hs x (by simp only [lnsXL]; exact List.mem_append_left _ hx)) (z _ (by simp only [shXL]; exact List.mem_cons_self))
      obtain ⟨b2, h2, k2⟩ := reprUs_of h hkj ds vs o.2 i.2 (fun x hx => hs x (by simp only [lnsXL]; exact List.mem_append_right _ hx)) (fun t ht => z t (by simp only [shXL]; exact List.mem_cons_of_mem _ ht))
      refine ⟨b1 ++ b2, fun b hm => ?_, ?_⟩
      · simp only [depXL]
        rcases List.mem_append.mp hm with hm | hm
        · obtain ⟨e, q1, q2, q3⟩ := h1 b hm
          exact ⟨e, q1, q2, Nat.le_trans q3 (Nat.le_max_left _ _)⟩
        · obtain ⟨e, q1, q2, q3⟩ := h2 b hm
          exact ⟨e, q1, q2, Nat.le_trans q3 (Nat.le_max_right _ _)⟩
      · simp only [depXL, shXL]
        exact .cons ((k1.more fun b hb => List.mem_append_left _ hb).level (Nat.le_max_left _ _)) (k2.more (fun b hb => List.mem_append_right _ hb) (Nat.le_max_right _ _))
end
end
end Dl
namespace Dl
open PySem L2 Builtin Builtin.List
def conX : D → Bool
  | .tup _ => true
  | .lst (_ :: _) => true
  | .ln _ _ _ => true
  | _ => false
structure ShowX (S : DSp) (M : Mem) (d : D) (t : Str) : Prop where
  con : conX d = true
  ok : okX d = true
  dep : depX d ≤ 6
  len : t.length ≤ sizeLine
  ex : ∃ txt : Int × Int × Int → Str, t = shX txt d ∧ ∀ x ∈ lnsX d, S [.ln x.1 x.2.1 x.2.2] M (fun e M' => e = .str (txt x) ∧ M' = M) noX
def oReprX (S : DSp) : DC := fun ds M R => match ds with
  | [d] => (∃ p, ShowOk d p ∧ R (.str p.shown) M) ∨ ∃ t, ShowX S M d t ∧ R (.str t) M
  | _ => False
theorem e_oReprX (S : DSp) (d : D) (M : Mem) (R : DR) : oReprX S [d] M R = ((∃ p, ShowOk d p ∧ R (.str p.shown) M) ∨ ∃ t, ShowX S M d t ∧ R (.str t) M) := id rfl
section
variable {X : Cx} {C : Addr}
def rReprX (S : DSp) (X : Cx) (C : Addr) : List V → Hp → VK → Prop := fun xs H Q => ∃ M d v, xs = [v] ∧ Is ⟨X.K, C⟩ M H d v ∧ Own ⟨X.K, C⟩ M H ∧ ((∃ p, ShowOk d p ∧ Q (.str p.shown) H) ∨ ∃ t, ShowX S M d t ∧ ∀ H', Ext M M H H' → Own ⟨X.K, C⟩ M H' → Q (.str t) H')
theorem cr_reprX {j k : Nat} {S : DSp} (h : UOk X.prog X.w X.K X.mg X.base C k "__repr__" 1 S) (hr : Room j X.A) (hkj : k + 3 ≤ j) (hg : X.A.guards = some []) : CallR X (.builtin "repr") (rReprX S X C) := by
  intro pins s σ H xs us Q I r hh
  obtain ⟨M, d, v, rfl, i, ho, hh⟩ := hh
  rcases hh with ⟨p, sh, q⟩ | ⟨t, sh, q⟩
  · exact cr_reprD hg hr.units pins s σ H [v] us Q I r ⟨M, d, v, p, rfl, i, sh, q⟩
  obtain ⟨u, rfl, rv⟩ := vals1 r
  obtain ⟨txt, rfl, hl⟩ := sh.ex
  have rm : ∀ e, e ≤ 9 → RmU k e X.A.in1 := fun e he => ⟨hr.hd, by have := hr.dp; show X.A.depth + _ + _ + _ < _; omega, by have := hr.un; show X.A.units + 1 + _ + _ + _ < _; omega⟩
  have fin : ∀ H2 s' u, Ext M M H H2 → Own ⟨X.K, C⟩ M H2 → Inv X pins σ H2 s' → EP X pins σ Q (.str (shX txt d) u) s' := fun H2 s' u e o' I' => ⟨.str _, H2, I', ⟨u, rfl⟩, q H2 e o'⟩
  have len := sh.len
  cases d with
  | tup ds => 
    have i0 := i
    unfold Is at i
    obtain ⟨a, xs, rfl, m, ha, il⟩ := i
    obtain rfl : u = Value.ref a := rv
    have z' : (tupleText (shXL txt ds)).length ≤ sizeLine := by simpa only [shX] using len
    obtain ⟨bs, hb, hT⟩ := reprUs_of h (Nat.le_refl k) ds xs (by simpa only [okX] using sh.ok) il (by simpa only [lnsX] using hl) (fun t ht => Nat.le_trans (tupleText_mem_le ht) z')
    have dd : depX (.tup ds) = depXL ds + 1 := by simp only [depX]
    have na : a ∉ bs := hb.not sh.ok i0 (by omega)
    simp only [shX] at fin
    obtain ⟨its, rv', ⟨o, hoa, hc, n, hd⟩, _⟩ := I.tuple (show SqT X.K H a xs from .inl (.inl ha))
    exact call_repr_slot (by have := hr.un; omega) ⟨o, hoa, hc⟩ F.slot_tuple_repr (tuple_callU (A := X.A.in1) m ha na hT (g := []) hg (fun _ _ => Clear.nil _) rfl (rm (depXL ds + 1) (by have := sh.dep; omega)) Ext.refl ho I (fun H2 s' u e' o' I' => ⟨_, _, rfl, fin H2 s' u e' o' I'⟩) z')
  | lst ds =>
    have i0 := i
    unfold Is at i
    obtain ⟨a, xs, rfl, m, ha, il⟩ := i
    obtain rfl : u = Value.ref a := rv
    have z' : (listText (shXL txt ds)).length ≤ sizeLine := by simpa only [shX] using len
    obtain ⟨bs, hb, hT⟩ := reprUs_of h (Nat.le_refl k) ds xs (by simpa only [okX] using sh.ok) il (by simpa only [lnsX] using hl) (fun t ht => Nat.le_trans (listText_mem_le ht) z')
    have dd : depX (.lst ds) = depXL ds + 1 := by simp only [depX]
    have na : a ∉ bs := hb.not sh.ok i0 (by omega)
    simp only [shX] at fin
    obtain ⟨its, rv', ⟨o, n, hoa, hc, _, hd⟩, _⟩ := I.list (show SqL X.K H a xs from .inl (.inl ha))
    have dep := sh.dep
    have con := sh.con
    generalize hts : shXL txt ds = ts at hT fin z'
    cases ds with
    | nil => cases con
    | cons d0 dr =>
      cases hT with
      | nil => simp only [shXL] at hts; cases hts
      | cons p q => exact call_repr_slot (by have := hr.un; omega) ⟨o, hoa, hc⟩ F.slot_list_repr.toG (list_callU (A := X.A.in1) m ha na (.cons p q) (g := []) hg (fun _ _ => Clear.nil _) rfl (rm (depXL (d0 :: dr) + 1) (by omega)) Ext.refl ho I (fun H2 s' u e' o' I' => ⟨_, _, rfl, fin H2 s' u e' o' I'⟩) z')
  | ln t p o =>
    obtain ⟨f, fd, ps, hm, hf, F, hb⟩ := h.ex
    obtain ⟨a, dx, q', rfl, ea⟩ := ln_at i rfl
    obtain rfl : u = Value.ref a := rv
    obtain ⟨m, Fr⟩ := inv_fr I
    obtain ⟨ox, od, J⟩ := inst_at I ea
    have hsp : spD ⟨X.K, C⟩ 1 S [V.ref a] H (fun v H' => v = .str (txt (t, p, o)) ∧ Ext M M H H' ∧ Own ⟨X.K, C⟩ M H') E0 := ⟨[.ln t p o], M, _, rfl, IsL.cons i IsL.nil, ho, hl (t, p, o) (by simp [lnsX]), fun d' M' y H' o' i' e' h' => by
      obtain ⟨rfl, rfl⟩ := h'
      unfold Is at i'
      exact ⟨i', e', o'⟩⟩
    refine PySem.W.repr_K (hr.mono (by omega : 1 ≤ j)).in1.units0 Fr I.ok.mod.kin J hm hf ?_
    have b := hb s [.ref a] I.kIn (by have := F.len _ _ _ _ hsp; exact this)
    rw [List.append_nil] at b
    refine wpAny_call (codeAny_mono (F.run X.A.in1 X.stack s H ⟨[.ref a], []⟩ [.ref a] [V.ref a] _ E0 (hr.mono (by omega : k + 1 ≤ j)).in1 I.env0.in1 b (.cons rfl .nil) hsp) fun z s' hz => ?_)
    simp only [shX] at fin
    match z, hz with
    | .error u, hz => exact hz.elim
    | .ok (.ret u), hz =>
      obtain ⟨v, H', I', rv, rfl, e', o'⟩ := I.after hz
      obtain ⟨tk, rfl⟩ := rv
      exact fin H' s' tk e' o' I'
    | .ok .next, hz => exact hz.elim
    | .ok .brk, hz => exact hz.elim
    | .ok .cont, hz => exact hz.elim
  | _ => cases sh.con
theorem b_reprX {j k : Nat} {S : DSp} (h : UOk X.prog X.w X.K X.mg X.base C k "__repr__" 1 S) (hr : Room j X.A) (hkj : k + 3 ≤ j) (hg : X.A.guards = some []) : BQ X C (.builtin "repr") (oReprX S) := ⟨_, cr_reprX h hr hkj hg, fun ds M R H xs Q o i1 h k => by
  match ds, h with
  | [d], h =>
    obtain ⟨v, rfl, i⟩ := isL1 i1
    refine ⟨M, d, v, rfl, i, o, ?_⟩
    rcases h with ⟨p, sh, h⟩ | ⟨t, sh, h⟩
    · exact .inl ⟨p, sh, k _ M _ H o is_str Ext.refl h⟩
    · exact .inr ⟨t, sh, fun H' e' o' => k _ M _ H' o' is_str e' h⟩⟩
end
end Dl
namespace Dl
open PySem L2
section
variable {X : Cx} {C f : Addr} {j k n : Nat} {S : DSp} {Sx : DSx} {x : Str} {p pos : Pos} {kws : List Keyword} {ks : List Str} {fd : FuncData} {ps : List Str} {sp : Sp} {CX : CxE} {E : XK} {g : List Value → List Value → List Value} {gV : List V → List V → List V} {tk : TA} {pick : List D → List D → List D}
theorem pe_callWN0 (F : FnOk X.prog X.w X.K X.mg X.base (CXp X.prog X.w) k f fd ps sp) (hr : Room k X.A) (hg : Gl X x) (hm : X.mg x = some (.ref f)) (hk : PySem.W.keepIn X.K (.ref f) = true) (hb : KBn X.K fd ps 0 ks g gV)
    (hkw : PK X kws tk) (hall : (backToKw pos (keywordEach kws X.env)).all (·.1.isSome) = true := by rfl) (hks : (backToKw pos (keywordEach kws X.env)).filterMap (·.1) = ks := by rfl)
    (hdb : (x == ("__debug__" : Str)) = false := by decide)
    (hpl : ((backTo pos (starEach [] X.env)).any (·.1) || (backToKw pos (keywordEach kws X.env)).any (·.1.isNone)) = false := by rfl) :
    PE X (.Call (.Name x p) [] kws pos) (fun σ H Q => tk σ H fun zs H2 => zs.length = ks.length ∧ ∃ E : XK, sp (gV [] zs) H2 Q E ∧ ∀ cls d H', E cls d H' → wX X cls d σ H') := by
  refine ⟨fun pins s σ H Q I h => wpAny_Call_Name_kw (ld_glob I hg hm ?_ hdb)⟩
  refine PySem.W.callWith_KW0 (h₀ := X.base) (first := []) I.ok.mod.kin hk hall (thn (hkw.run pos pins s σ H _ I h) fun ws s2 ⟨zs, H2, I2, rz, l2, E, hs, hW⟩ => ⟨I2.kIn, ?_⟩) hpl
  rw [hks]
  exact run_fnW (args := ⟨[], ks.zip ws⟩) F hr (hb.to s2 [] ws I2.kIn rfl (by rw [← rz.length]; exact l2)) (hb.rel .nil rz) (cx_xe I2 hW) I2 hs
theorem qxck0 {vk : DAX} (h : KCallX X.prog X.w X.K X.mg X.base C k x n S Sx 0 ks pick) (hr : Room j X.A) (hkj : k ≤ j) (hkw : QKX X C kws vk) (hg : Gl X x := by rfl) (hall : (backToKw pos (keywordEach kws X.env)).all (·.1.isSome) = true := by rfl) (hks : (backToKw pos (keywordEach kws X.env)).filterMap (·.1) = ks := by rfl)
    (hdb : (x == ("__debug__" : Str)) = false := by decide)
    (hpl : ((backTo pos (starEach [] X.env)).any (·.1) || (backToKw pos (keywordEach kws X.env)).any (·.1.isNone)) = false := by rfl) :
    QEX X C (.Call (.Name x p) [] kws pos) (vCallKX n 0 ks.length S Sx pick (aL vNil) vk) := by
  obtain ⟨f, fd, ps, g, gV, h1, h2, h3, h4, h5⟩ := h.ex
  obtain ⟨tk, pk, sk⟩ := hkw.ex
  refine ⟨_, pe_callWN0 h3 (hr.mono hkj) hg h1 h2 h4 pk hall hks hdb hpl, fun γ M R Xd σ H Q re hv kk kx => sk γ M _ Xd σ H _ re hv (fun zs M2 us H2 o2 i2 e2 h2 => ?_) kx⟩
  obtain ⟨l1, l2, l3, hs⟩ := h2
  refine ⟨by rw [← i2.len]; exact l2, ?_⟩
  exact spU_of l3 o2 (h5 M2 H2 [] zs [] us IsL.nil i2) hs (fun d M3 y H3 o3 i3 e3 h3 => kk d M3 y H3 o3 i3 (e2.trans e3) h3) (kx.ext e2)
end
section
variable {α : Type} {a b c d e f g h : α}
theorem pk01 : pickL [0] [] [a] = [a] := id rfl
theorem pk02 : pickL [0, 1] [] [a, b] = [a, b] := id rfl
theorem pk03 : pickL [0, 1, 2] [] [a, b, c] = [a, b, c] := id rfl
theorem pk04 : pickL [0, 1, 2, 3] [] [a, b, c, d] = [a, b, c, d] := id rfl
theorem pk05 : pickL [0, 1, 2, 3, 4] [] [a, b, c, d, e] = [a, b, c, d, e] := id rfl
theorem pk06 : pickL [0, 1, 2, 3, 4, 5] [] [a, b, c, d, e, f] = [a, b, c, d, e, f] := id rfl
theorem pk07 : pickL [0, 1, 2, 3, 4, 5, 6] [] [a, b, c, d, e, f, g] = [a, b, c, d, e, f, g] := id rfl
theorem pk08 : pickL [0, 1, 2, 3, 4, 5, 6, 7] [] [a, b, c, d, e, f, g, h] = [a, b, c, d, e, f, g, h] := id rfl
end
end Dl
namespace Dl
open PySem L2
def oEqNT (f : Bool → Bool) : DO := fun d e M R => match d, e with
  | .tup ds, .tup [] => R (.bl (f ds.isEmpty)) M
  | _, _ => False
theorem f_eqNt {f : Bool → Bool} {ds : List D} {M : Mem} {R : DR} : oEqNT f (.tup ds) (.tup []) M R = R (.bl (f ds.isEmpty)) M := id rfl
section
variable {X : Cx} {C : Addr} {a : Expr} {pos : Pos} {va : DE}
end
theorem f_inW2 (f : Bool → Bool) (z a b : String) (M : Mem) (R : DR) : oInDG f (.str (Str.ofString z)) (.lst [.str (Str.ofString a), .str (Str.ofString b)]) M R = R (.bl (f (decide (a = z) || decide (b = z)))) M := by
  have e : oInDG f (.str (Str.ofString z)) (.lst [.str (Str.ofString a), .str (Str.ofString b)]) M R = ((PyData.strOk (Str.ofString a) && (PyData.strOk (Str.ofString b) && true)) = true ∧ PyData.strOk (Str.ofString z) = true ∧ (0 : Nat) = 0 ∧ R (.bl (f ([Str.ofString a, Str.ofString b].any fun x => x == Str.ofString z))) M) := propext Iff.rfl
  rw [e]
  simp [word_ok, word_beq]
theorem f_inW3 (f : Bool → Bool) (z a b c : String) (M : Mem) (R : DR) : oInDG f (.str (Str.ofString z)) (.lst [.str (Str.ofString a), .str (Str.ofString b), .str (Str.ofString c)]) M R = R (.bl (f (decide (a = z) || (decide (b = z) || decide (c = z))))) M := by
  have e : oInDG f (.str (Str.ofString z)) (.lst [.str (Str.ofString a), .str (Str.ofString b), .str (Str.ofString c)]) M R = ((PyData.strOk (Str.ofString a) && (PyData.strOk (Str.ofString b) && (PyData.strOk (Str.ofString c) && true))) = true ∧ PyData.strOk (Str.ofString z) = true ∧ (0 : Nat) = 0 ∧ R (.bl (f ([Str.ofString a, Str.ofString b, Str.ofString c].any fun x => x == Str.ofString z))) M) := propext Iff.rfl
  rw [e]
  simp [word_ok, word_beq]
end Dl
namespace Dl
open PySem L2
structure MOkOX (P : Program) (w : World) (K : PySem.W.Frag) (mg : Str → Option Value) (base : Heap) (C : Addr) (k : Nat) (c m : Str) (n : Nat) (S : DSp) (Sx : DSx) : Prop where
  ex : ∃ (f : Addr) (fd : FuncData) (ps : List Str), OCls K c ∧ Meth K (He.ga K c) m f ∧ m ∉ clsF c ∧ FnOk P w K mg base (CXp P w) k f fd ps (spU ⟨K, C⟩ n S Sx) ∧ Binds K fd ps []
section
variable {X : Cx} {C : Addr} {j k n : Nat} {S : DSp} {Sx : DSx} {o e : Expr} {es : List Expr} {c m : Str} {pos apos : Pos}
end
def spVX (G : Gx) (nmax : Nat) (S : DSx) : Sp := fun vs H _ E => ∃ (d : D) (es : List D) (M : Mem) (Xd : DX), es.length ≤ nmax ∧ IsL G M H (d :: es) vs ∧ Own G M H ∧ S [d, .tup es] M Xd ∧
  ∀ xd M' cls d' H', Own G M' H' → XIs G M' H' xd cls d' → Ext M M' H H' → Xd xd M' → E cls d' H'
def spVU (G : Gx) (nmax : Nat) (S : DSp) (Sx : DSx) : Sp := fun vs H Q E => spV G nmax S vs H Q E ∨ spVX G nmax Sx vs H Q E
section
variable {P : Program} {w : World} {K : PySem.W.Frag} {mg : Str → Option Value} {base : Heap} {x qual : Str} {params : Arguments} {body : List Stmt} {scope : Scope} {kws : List (Str × V)} {f : Addr} {fd : FuncData}
end
structure MVOkX (P : Program) (w : World) (K : PySem.W.Frag) (mg : Str → Option Value) (base : Heap) (C : Addr) (k : Nat) (c m : Str) (nmax : Nat) (S : DSp) (Sx : DSx) : Prop where
  ex : ∃ (f : Addr), OCls K c ∧ Meth K (He.ga K c) m f ∧ m ∉ clsF c ∧ FnR P w K mg base (CXp P w) k f (spVU ⟨K, C⟩ nmax S Sx)
section
variable {X : Cx} {C : Addr} {j k nmax : Nat} {S : DSp} {Sx : DSx} {o e : Expr} {es : List Expr} {c m : Str} {pos apos : Pos} {sp : Sp} {f : Addr} {ta : TE} {t : TA}
end
end Dl
namespace Dl
open PySem L2
def oRepT : DO := fun d e M R => match d, e with
  | .tup ds, .int k => ds ≠ [] ∧ 2 ≤ k ∧ k ≤ 1000 ∧ ds.length ≤ 1000 ∧ R (.tup (List.replicate k.toNat ds).flatten) M
  | _, _ => False
theorem f_repT {M : Mem} {R : DR} {ds : List D} {k : Int} : oRepT (.tup ds) (.int k) M R = (ds ≠ [] ∧ 2 ≤ k ∧ k ≤ 1000 ∧ ds.length ≤ 1000 ∧ R (.tup (List.replicate k.toNat ds).flatten) M) := id rfl
section
variable {X : Cx} {C : Addr} {a b : Expr} {va vb : DE} {pos : Pos}
end
end Dl
namespace Dl
open PySem L2
def lkE (Ed : DEnds) (p : Addr) (o : Obj) (xs : List V) (ks : List Key) (ds : List D) : DEnds :=
  ⟨fun γ M => M p = some (.lck o xs ks ds) ∧ Ed.nx γ (mset M p (.dct ks ds)), fun d M => M p = some (.lck o xs ks ds) ∧ Ed.rt d (mset M p (.dct ks ds)),
   fun γ M => M p = some (.lck o xs ks ds) ∧ Ed.bk γ (mset M p (.dct ks ds)), fun γ M => M p = some (.lck o xs ks ds) ∧ Ed.ct γ (mset M p (.dct ks ds)), fun _ _ _ => False⟩
section
variable {X : Cx} {C : Addr} {st : Stmt} {v : DS}
end
section
variable {X : Cx} {C : Addr} {tg e : Expr} {ve : DE}
end
end Dl
namespace Dl
open PySem L2
def oSortS : DC := fun ds M R => match ds with
  | [.lst xs] => (match strsOf xs with
    | some ss => ss.length < 64 ∧ ∀ ys : List Str, ys.Perm ss → PyProof.Rows.sortedS ys = true → R (.lst (ys.map D.str)) M
    | none => False)
  | _ => False
theorem strsOf_map : ∀ ss : List Str, strsOf (ss.map D.str) = some ss
  | [] => rfl
  | x :: r => by
    show (match strsOf (r.map D.str) with
      | some xs => some (x :: xs)
      | none => none) = _
    rw [strsOf_map r]
theorem f_sortS {M : Mem} {R : DR} {ss : List Str} : oSortS [.lst (ss.map D.str)] M R = (ss.length < 64 ∧ ∀ ys : List Str, ys.Perm ss → PyProof.Rows.sortedS ys = true → R (.lst (ys.map D.str)) M) := by
  unfold oSortS
  simp only [strsOf_map]
section
variable {X : Cx} {C : Addr}
end
end Dl
namespace Dl
open PySem L2
section
open PySem PySem.Calls PyProof.Rows PySem.W
end
section
open PySem PySem.Calls PyProof.Rows PySem.W
inductive BO (s : Shared) : Value → String → Prop
  | non : BO s .none "NoneType"
  | bl (b : Bool) : BO s (.bool b) "bool"
  | int (i : Int) (t : Tok) : BO s (.int i t) "int"
  | str (x : Str) (t : Tok) : BO s (.str x t) "str"
  | lst {a : Addr} {items : Array Value} {n : Nat} {dd : Option Addr} {sl : Array (Option Value)} (e : s.heap.get? a = some { cls := .type "list", dict := dd, data := .seq items n, slots := sl }) : BO s (.ref a) "list"
  | tup {a : Addr} {items : Array Value} {n : Nat} {dd : Option Addr} {sl : Array (Option Value)} (e : s.heap.get? a = some { cls := .type "tuple", dict := dd, data := .seq items n, slots := sl }) : BO s (.ref a) "tuple"
  | dct {a : Addr} (e : s.TypeIs (.ref a) "dict") : BO s (.ref a) "dict"
theorem BO.ty {s : Shared} {u : Value} {T : String} (h : BO s u T) : s.TypeIs u T := by
  cases h with
  | non => exact rfl
  | bl b => exact rfl
  | int i t => exact typeIs_int s i t
  | str x t => exact typeIs_str s x t
  | lst e => exact ⟨_, e, rfl⟩
  | tup e => exact ⟨_, e, rfl⟩
  | dct e => exact e
variable {prog : Program} {w : World} {A : Around} {E : Value → Shared → Prop} {s : Shared} {K : Frag} {x y C dx f : Addr} {ox oy : Obj} {od od' : Option Obj} {u : Value} {T : String}
end
section
open PySem PySem.Calls PyProof.Rows PySem.W
variable {prog : Program} {w : World} {A : Around} {E : Value → Shared → Prop} {s : Shared} {K : Frag} {x y C dx f : Addr} {ox oy : Obj} {od od' : Option Obj} {u : Value} {T : String}
end
inductive BV (H : Hp) : V → Ty → Prop
  | non : BV H .non .non
  | bl (b : Bool) : BV H (.bl b) .bl
  | int (i : Int) : BV H (.int i) .int
  | str (x : Str) : BV H (.str x) .str
  | tup {a : Addr} {xs : List V} (e : H a = some (.tup xs)) : BV H (.ref a) .tup
  | lst {a : Addr} {xs : List V} (e : H a = some (.lst xs)) : BV H (.ref a) .lst
  | dct {a : Addr} {kvs : List (Key × V)} (e : H a = some (.dK kvs)) : BV H (.ref a) .dct
section
variable {X : Cx} {pins : List (Addr × Obj)} {σ : St} {H : Hp} {s : Shared}
end
structure EqF (K : PySem.W.Frag) (C : Addr) : Prop where
  nf : NeF K C
  no : ∀ t : Ty, PySem.W.subIn K (.ref C) (.type t.nm) = some false
section
variable {X : Cx} {C : Addr} {j k : Nat} {S : DSp}
end
end Dl
namespace Dl
open PySem L2
section
variable {X : Cx} {C : Addr} {j k n : Nat} {S : DSp} {Sx : DSx} {o e fe : Expr} {es : List Expr} {m : Str} {pos apos : Pos} {f g p : Addr} {fd : FuncData} {ps : List Str} {sp : Sp} {ta tb : TE} {t : TA} {mc : Value}
structure CMOkX (P : Program) (w : World) (K : PySem.W.Frag) (mg : Str → Option Value) (base : Heap) (C : Addr) (k : Nat) (m : Str) (n : Nat) (S : DSp) (Sx : DSx) : Prop where
  ex : ∃ (mc : Value) (p g : Addr) (fd : FuncData) (ps : List Str), ClX.CRead K C mc ∧ ClX.CMet K C mc m p g ∧ FnOk P w K mg base (CXp P w) k g fd ps (spU ⟨K, C⟩ n S Sx) ∧ Binds K fd ps []
structure BinX (K : PySem.W.Frag) (C : Addr) (op : Operator) : Prop where
  b : BinF K C op
  all : ∀ t : Ty, (PySem.W.findIn K (.type t.nm) (PySem.dunder op.info.2)).isSome = true ∧ (PySem.W.findIn K (.type t.nm) (dunderR op.info.2)).isSome = true
end
section
open PySem PySem.Calls PyProof.Rows PySem.W
variable {prog : Program} {w : World} {A : Around} {E : Value → Shared → Prop} {s : Shared} {K : Frag} {x C f L : Addr} {ox : Obj} {od : Option Obj} {T : String} {h₀ : Heap} {m : Str → Option Value} {b : Value}
theorem BO.keeps {s' : Shared} {u : Value} (B : BO s u T) (k : ∀ b o, s.heap.get? b = some o → s'.heap.get? b = some o) : BO s' u T := by
  cases B with
  | non => exact .non
  | bl b => exact .bl b
  | int i t => exact .int i t
  | str x t => exact .str x t
  | lst e => exact .lst (k _ _ e)
  | tup e => exact .tup (k _ _ e)
  | dct e => obtain ⟨o, e, q⟩ := e; exact .dct ⟨o, k _ _ e, q⟩
end
section
variable {X : Cx} {C : Addr} {j k n : Nat} {S : DSp} {Sx : DSx} {o e fe : Expr} {es : List Expr} {m : Str} {pos apos : Pos} {f g p : Addr} {fd : FuncData} {ps : List Str} {sp : Sp} {ta tb : TE} {t : TA} {mc : Value}
structure UOkX (P : Program) (w : World) (K : PySem.W.Frag) (mg : Str → Option Value) (base : Heap) (C : Addr) (k : Nat) (m : Str) (n : Nat) (S : DSp) (Sx : DSx) : Prop where
  ex : ∃ (f : Addr) (fd : FuncData) (ps : List Str), PySem.W.findIn K (.ref C) m = some (some (.ref f)) ∧ PySem.W.isFn K (.ref f) = true ∧ FnOk P w K mg base (CXp P w) k f fd ps (spU ⟨K, C⟩ n S Sx) ∧ Binds K fd ps []
end
end Dl

namespace GQ
open PySem PySem.SeqAt
open AutoSeq1 (wpAny_loadPart')
open MeetsSeq MeetsSeq2 MeetsSeq3 SeqRoads2
section
variable {prog : Program} {w : World} {A : Around} {R : Result → Shared → Prop}
end
section
variable {prog : Program} {w : World} {A : Around} {E : Value → Shared → Prop} {s : Shared}
end
end GQ
namespace L2
open PySem PySem.Spec PyProof.Rows
section
variable {X : Cx} {n : Nat} {D : Eqv}
end
end L2
namespace Dl
open PySem L2
def mem0 : Mem := fun _ => none
theorem own0 {G : Gx} {H : Hp} : Own G mem0 H := fun a m e => by cases e
abbrev L3 : Type := Int × Int × Int
def l3D (x : L3) : D := .ln x.1 x.2.1 x.2.2
section
variable {X : Cx} {C : Addr} {j k : Nat} {S : DSp}
end
end Dl
namespace PySem
namespace HandSPX
open Builtin Builtin.ObjectAttr
section
variable {M : Model} {A : Around} {E : Value → Shared → Prop} {h : Heap} {g : Array GenState} {d : Drawn} {t : Nat} {os : OsState} {kw : List (Str × Value)}
variable {nm q : Str} {C N : Addr} {bs bm bmB : List Value} {hdct : Bool} {sn : List Str} {sub : List Value} {ab : Bool} {col : Option Bool} {dd : Option Addr} {k0 k1 k2 k3 k5 : Option Value} {B newId initId : String}
end
section
variable {prog : Program} {w : World} {A : Around} {E : Value → Shared → Prop} {R : Result → Shared → Prop} {h : Heap} {g : Array GenState} {d : Drawn} {t : Nat} {os : OsState} {kw : List (Str × Value)}
variable {nm q : Str} {C N : Addr} {bs bm bmB : List Value} {hdct : Bool} {sn : List Str} {sub : List Value} {ab : Bool} {col : Option Bool} {dd : Option Addr} {k0 k1 k2 k3 k5 : Option Value} {B newId initId : String}
end
end HandSPX
end PySem

namespace Dl
open PySem L2
open PySem.Spec PyProof.Rows
section
variable {X : Cx} {o e : Expr} {es : List Expr} {to te : TE} {ta : TA} {f : Str} {p p' p1 p2 pos : Pos}
end
end Dl

namespace Dl
open PySem L2
structure ExV (P : Program) (w : World) (K : PySem.W.Frag) (mg : Str → Option Value) (base : Heap) (k : Nat) (c : Str) : Prop where
  ex : ∃ (fI : Addr) (fd : FuncData) (ps : List Str), mg c = some (.ref (He.ga K c)) ∧ OexC K (He.ga K c) ∧ PySem.W.findIn K (.ref (He.ga K c)) "__init__" = some (some (.ref fI)) ∧ PySem.W.typeIn K (.ref fI) = some (.type "function") ∧
    FnOk P w K mg base CX0 k fI fd ps (spEx (He.ga K c) (fldN c)) ∧ Binds K fd ps [] ∧ Binds K fd ps [.none] ∧ (∀ (s : Shared) (u x : Value), K.In s.heap → BindsTo s fd ⟨[u], [(fldN c, x)]⟩ (ps.zip [u, x])) ∧ ps.length = 2 ∧ noFld c = false
structure TxV (d : DefE) : Prop where
  b0 : ∀ (T : Addr) (doc pm : Value) (an : Option Addr) (cdv ct : Value) (cc : Addr) (u v : Value), ∃ k, bindArgs (PySem.W.ksFn "__init__" d.qual d.params d.body d.scope (.ref T) .none doc pm an cdv ct cc) ⟨[u], []⟩ = seqItems? (.ref T) >>= k ∧ k (some [v].toArray) = pure ((["self", fldN d.cls] : List Str).zip [u, v])
  bk : ∀ (T : Addr) (doc pm : Value) (an : Option Addr) (cdv ct : Value) (cc : Addr) (u x v : Value), ∃ k, bindArgs (PySem.W.ksFn "__init__" d.qual d.params d.body d.scope (.ref T) .none doc pm an cdv ct cc) ⟨[u], [(fldN d.cls, x)]⟩ = seqItems? (.ref T) >>= k ∧ k (some [v].toArray) = pure ((["self", fldN d.cls] : List Str).zip [u, x])
section
variable {X : Cx} {C : Addr} {j k : Nat} {c : Str} {e : Expr} {va : DA} {p pos : Pos} {kws : List Keyword}
end
end Dl
namespace Dl
open PySem L2
section
variable {X : Cx} {pins : List (Addr × Obj)} {σ : St} {H : Hp} {s : Shared} {C : Addr} {M : Mem}
end
structure ShowS (d : D) (p : PyData) : Prop where
  is : toR d = some p
  sh : p.showable = true
  len : p.shown.length ≤ sizeLine
  dep : p.depth ≤ 60
section
variable {X : Cx} {C : Addr}
end
end Dl
namespace Dl
open PySem L2
section
open PySem.Spec PyProof.Rows
end
section
variable {X : Cx} {C : Addr} {tg e : Expr} {va : DA}
end
end Dl
namespace Dl
open PySem L2
section
variable {X : Cx} {C : Addr} {j k : Nat} {S : DSp}
end
end Dl
namespace Dl
open PySem L2
section
variable {X : Cx} {C : Addr} {o i e : Expr} {vo vi ve : DE} {pos apos : Pos}
end
end Dl
namespace Dl
open PySem L2
structure UOkO (P : Program) (w : World) (K : PySem.W.Frag) (mg : Str → Option Value) (base : Heap) (C : Addr) (k : Nat) (c m : Str) (n : Nat) (S : DSp) : Prop where
  ex : ∃ (f : Addr) (fd : FuncData) (ps : List Str), PySem.W.findIn K (.ref (He.ga K c)) m = some (some (.ref f)) ∧ PySem.W.isFn K (.ref f) = true ∧ FnOk P w K mg base CX0 k f fd ps (spD ⟨K, C⟩ n S) ∧ Binds K fd ps []
section
variable {X : Cx} {C : Addr} {j k : Nat} {S : DSp} {c : Str}
end
section
variable {X : Cx} {C : Addr} {j k n : Nat} {S : DSp} {Sx : DSx} {o : Expr} {c m : Str} {pos apos : Pos}
end
end Dl
namespace Dl
open PySem L2
def oIxS : DO := fun d e M R => match d, e with
  | .str z, .int i => z.length ≤ 1000 ∧ ∃ c, atI z.cps.toList i = some c ∧ R (.str ⟨#[c]⟩) M
  | _, _ => False
theorem f_ixTx {z : Str} {i : Int} {M : Mem} {R : DR} : oIxS (.str z) (.int i) M R = (z.length ≤ 1000 ∧ ∃ c, atI z.cps.toList i = some c ∧ R (.str ⟨#[c]⟩) M) := id rfl
def oMulS : DO := fun d e M R => match d, e with
  | .str z, .int i => 0 ≤ i ∧ i ≤ 1000 ∧ z.length ≤ 1000 ∧ R (.str (Txt.mul z i)) M
  | _, _ => False
theorem f_mulS {z : Str} {i : Int} {M : Mem} {R : DR} : oMulS (.str z) (.int i) M R = (0 ≤ i ∧ i ≤ 1000 ∧ z.length ≤ 1000 ∧ R (.str (Txt.mul z i)) M) := id rfl
section
variable {X : Cx} {C : Addr} {a b : Expr} {va vb : DE} {pos : Pos}
end
end Dl
namespace Dl
open PySem L2
def nomem : Mem := fun _ => none
def oReprXO (S : DSp) : DC := fun ds M R => match ds with
  | [.own p] => ∃ es, M p = some (.lst es) ∧ ((∃ q, ShowOk (.lst es) q ∧ R (.str q.shown) M) ∨ ∃ t, ShowX S nomem (.lst es) t ∧ R (.str t) M)
  | [d] => (∃ p, ShowOk d p ∧ R (.str p.shown) M) ∨ ∃ t, ShowX S M d t ∧ R (.str t) M
  | _ => False
theorem shu_xo {S : DSp} {d : D} {M : Mem} {R : DR} {t : Str} (h : (∃ p, ShowOk d p ∧ t = p.shown) ∨ ∀ M, ShowX S M d t) (hd : pureD d = true) (k : R (.str t) M) : oReprXO S [d] M R := by
  have main : (∃ p, ShowOk d p ∧ R (.str p.shown) M) ∨ ∃ t, ShowX S M d t ∧ R (.str t) M := by
    rcases h with ⟨p, sp, rfl⟩ | sx
    · exact .inl ⟨p, sp, k⟩
    · exact .inr ⟨t, sx M, k⟩
  cases d with
  | own _ => cases hd
  | _ => exact main
theorem shu_xown {S : DSp} {es : List D} {p : Addr} {M : Mem} {R : DR} {t : Str} (h : (∃ q, ShowOk (.lst es) q ∧ t = q.shown) ∨ ∀ M, ShowX S M (.lst es) t) (hp : M p = some (.lst es)) (k : R (.str t) M) : oReprXO S [.own p] M R := by
  refine ⟨es, hp, ?_⟩
  rcases h with ⟨q, sp, rfl⟩ | sx
  · exact .inl ⟨q, sp, k⟩
  · exact .inr ⟨t, sx nomem, k⟩
section
variable {X : Cx} {C : Addr}
theorem own_keep {G : Gx} {M : Mem} {H H' : Hp} (o : Own G M H) (e : ∀ a u, H a = some u → H' a = some u) : Own G M H' ∧ Ext M M H H' := by
  have x : Ext M M H H' := ⟨fun a u m h => ⟨e a u h, m⟩, fun _ h => h⟩
  refine ⟨fun a m h => ?_, x⟩
  have q := o a m h
  cases m with
  | lst ds =>
    obtain ⟨pu, xs, ha, il⟩ := q
    exact ⟨pu, xs, e a _ ha, IsL.ext x _ _ il⟩
  | obj c ds =>
    obtain ⟨hl, dx, vs, ha, il⟩ := q
    exact ⟨hl, dx, vs, e a _ ha, FIsL.ext x _ _ il⟩
  | dct ks ds =>
    obtain ⟨pu, hl, xs, ha, il⟩ := q
    exact ⟨pu, hl, xs, e a _ ha, IsL.ext x _ _ il⟩
  | lck o' xs ks ds =>
    obtain ⟨pu, hl, ha, il⟩ := q
    exact ⟨pu, hl, e a _ ha, IsL.ext x _ _ il⟩
  | lso ds =>
    obtain ⟨xs, ha, il⟩ := q
    exact ⟨xs, e a _ ha, FIsL.ext x _ _ il⟩
theorem b_reprXO {j k : Nat} {S : DSp} (h : UOk X.prog X.w X.K X.mg X.base C k "__repr__" 1 S) (hr : Room j X.A) (hkj : k + 3 ≤ j) (hg : X.A.guards = some []) : BQ X C (.builtin "repr") (oReprXO S) := ⟨_, cr_reprX h hr hkj hg, fun ds M R H xs Q o i1 hh k => by
  have old : ∀ d, ds = [d] → ((∃ p, ShowOk d p ∧ R (.str p.shown) M) ∨ ∃ t, ShowX S M d t ∧ R (.str t) M) → rReprX S X C xs H Q := fun d e h => by
    clear hh
    subst e
    obtain ⟨v, rfl, i⟩ := isL1 i1
    refine ⟨M, d, v, rfl, i, o, ?_⟩
    rcases h with ⟨p, sh, h⟩ | ⟨t, sh, h⟩
    · exact .inl ⟨p, sh, k _ M _ H o is_str Ext.refl h⟩
    · exact .inr ⟨t, sh, fun H' e' o' => k _ M _ H' o' is_str e' h⟩
  match ds, hh with
  | [], h => exact False.elim h
  | a :: b :: r, h => exact False.elim (show False from by cases a <;> exact h)
  | [d], h =>
    cases d with
    | own p =>
      have h : ∃ es, M p = some (.lst es) ∧ ((∃ q, ShowOk (.lst es) q ∧ R (.str q.shown) M) ∨ ∃ t, ShowX S nomem (.lst es) t ∧ R (.str t) M) := h
      obtain ⟨es, hp, h⟩ := h
      obtain ⟨v, rfl, i⟩ := isL1 i1
      unfold Is at i
      obtain ⟨pu, us, ha, il⟩ := o p _ hp
      obtain rfl := i.1
      refine ⟨nomem, .lst es, .ref p, rfl, ?_, fun a m z => (by cases z), ?_⟩
      · unfold Is
        exact ⟨p, us, rfl, rfl, ha, IsL.sub (fun _ _ => rfl) _ _ pu il⟩
      rcases h with ⟨q, sh, h⟩ | ⟨t, sh, h⟩
      · exact .inl ⟨q, sh, k _ M _ H o is_str Ext.refl h⟩
      · refine .inr ⟨t, sh, fun H' e' _ => ?_⟩
        obtain ⟨o2, x2⟩ := own_keep o fun a u hu => (e'.st a u rfl hu).1
        exact k _ M _ H' o2 is_str x2 h
    | _ => exact old _ rfl h⟩
end
end Dl
namespace Dl
open PySem L2
section
variable {X : Cx} {C : Addr} {j k : Nat} {S : DSp}
end
end Dl
namespace GQ
open PySem PySem.SeqAt
open AutoSeq1 (wpAny_loadPart')
open MeetsSeq MeetsSeq2 MeetsSeq3 SeqRoads2
section
variable {prog : Program} {w : World} {A : Around} {R : Result → Shared → Prop}
end
section
variable {prog : Program} {w : World} {A : Around} {E : Value → Shared → Prop} {s : Shared}
end
end GQ
namespace L2
open PySem PySem.Spec PyProof.Rows
section
variable {X : Cx} {n : Nat} {D : Eqv}
end
end L2
namespace Dl
open PySem L2
section
variable {X : Cx} {C : Addr} {j k : Nat} {S : DSp}
end
end Dl
namespace Dl
open PySem L2
section
variable {X : Cx} {C : Addr} {a b e o : Expr} {va vb ve vo : DE} {pos apos : Pos}
end
section
variable {X : Cx} {C : Addr} {x y : Str} {j : Nat} {body : List Stmt} {kc : Nat} {np pn1 pn2 pa pos pos' : Pos} {vb : DS}
end
section
variable {X : Cx} {C : Addr} {tg a b c : Expr} {va : DA} {p pos : Pos}
end
section
variable {g : DG} {t : DT} {e ve : DE} {vs : List Nat} {γ : Gm} {M M1 : Mem} {R : DR} (c : D → Bool) (f : D → D)
end
end Dl
namespace GQ
open PySem PySem.W PySem.Calls PyProof.Rows PyProof.V PySem.Spec
section
variable {prog : Program} {w : World} {K : Type} [DecidableEq K] {knd : KeyKind prog w K} {A : Around} {E : Value → Shared → Prop} {s : Shared}
end
end GQ
namespace L2
open PySem PySem.Spec PyProof.Rows
section
variable {X : Cx} {n : Nat} {D : Eqv}
end
end L2
namespace Dl
open PySem L2
section
variable {X : Cx} {C : Addr} {j k n : Nat} {S : DSp} {Sx : DSx} {c m : Str} {o : Expr} {vo : DE} {vk : DA} {pos apos : Pos} {kws : List Keyword} {ks : List Str} {pick : List D → List D → List D}
theorem is_ln_upd {G : Gx} {M : Mem} {H : Hp} {x : L3} {v : V} {a : Addr} {kvs : List (Key × V)} {w : HO} (h : Is G M H (l3D x) v) (ha : H a = some (.dK kvs)) : Is G M (upd H a w) (l3D x) v := by
  unfold l3D Is at h ⊢
  obtain ⟨b, dx, q, e, mb, hb, mq, hq⟩ := h
  have nb : b ≠ a := fun z => by rw [z, ha] at hb; cases hb
  have nq : q ≠ a := fun z => by rw [z, ha] at hq; cases hq
  exact ⟨b, dx, q, e, mb, by rw [upd_ne nb]; exact hb, mq, by rw [upd_ne nq]; exact hq⟩
structure IsoF (K : PySem.W.Frag) (mg : Str → Option Value) (c : Str) : Prop where
  glo : mg c = some (.ref (He.ga K c))
  cls : Cls K (He.ga K c)
  attr : PySem.W.findIn K (.ref (He.ga K c)) "__class__" = some (some (.builtin "object.__class__"))
  get : PySem.W.specialIn K (.builtin "object.__class__") "__get__" = some (some (.builtin "getset_descriptor.__get__"))
  tak : PySem.W.takesIn K (.builtin "object.__class__") = some true
  top : PySem.W.mroIn K (He.ga K c) (.type "object") = some true
structure MKOkO (P : Program) (w : World) (K : PySem.W.Frag) (mg : Str → Option Value) (base : Heap) (C : Addr) (k : Nat) (c m : Str) (n : Nat) (S : DSp) (ks : List Str) (pick : List D → List D → List D) : Prop where
  ex : ∃ (f : Addr) (fd : FuncData) (ps : List Str) (g : List Value → List Value → List Value) (gV : List V → List V → List V), OCls K c ∧ Meth K (He.ga K c) m f ∧ m ∉ clsF c ∧ FnOk P w K mg base CX0 k f fd ps (spD ⟨K, C⟩ n S) ∧ KBn K fd ps 1 ks g gV ∧ PickOk K C pick gV
structure MKOkOX (P : Program) (w : World) (K : PySem.W.Frag) (mg : Str → Option Value) (base : Heap) (C : Addr) (k : Nat) (c m : Str) (n : Nat) (S : DSp) (Sx : DSx) (ks : List Str) (pick : List D → List D → List D) : Prop where
  ex : ∃ (f : Addr) (fd : FuncData) (ps : List Str) (g : List Value → List Value → List Value) (gV : List V → List V → List V), OCls K c ∧ Meth K (He.ga K c) m f ∧ m ∉ clsF c ∧ FnOk P w K mg base (CXp P w) k f fd ps (spU ⟨K, C⟩ n S Sx) ∧ KBn K fd ps 1 ks g gV ∧ PickOk K C pick gV
end
end Dl
namespace Dl
open PySem L2
def oRepO : DO := fun d e M R => match d, e with
  | .lst xs, .int k => 0 ≤ k ∧ k < 2 ^ 63 ∧ xs.length * k.toNat ≤ sizeLine ∧ pureL (List.replicate k.toNat xs).flatten = true ∧ ∀ p, M p = none → R (.own p) (mset M p (.lst (List.replicate k.toNat xs).flatten))
  | _, _ => False
theorem f_repO {M : Mem} {R : DR} {xs : List D} {k : Int} : oRepO (.lst xs) (.int k) M R = (0 ≤ k ∧ k < 2 ^ 63 ∧ xs.length * k.toNat ≤ sizeLine ∧ pureL (List.replicate k.toNat xs).flatten = true ∧ ∀ p, M p = none → R (.own p) (mset M p (.lst (List.replicate k.toNat xs).flatten))) := id rfl
theorem sndO_repO {G : Gx} : SndO G rRep oRepO := fun d e M R H x y Q o i1 i2 h k => by
  unfold oRepO at h
  split at h
  · rename_i xs j
    obtain ⟨h0, h1, hz, pu, hr⟩ := h
    unfold Is at i1 i2
    obtain ⟨a, us, rfl, ha, hH, hl⟩ := i1
    obtain rfl := i2
    refine ⟨a, j, us, rfl, rfl, hH, by omega, by omega, by rw [← hl.len]; exact hz, fun p hp => ?_⟩
    exact k _ (mset M p (.lst (List.replicate j.toNat xs).flatten)) _ _ (o.newOwn hp pu (hl.rep _)) is_own (Ext.newOwn hp) (hr p (o.fresh hp))
  · exact h.elim
section
variable {X : Cx} {C : Addr} {a b : Expr} {va vb : DE} {pos : Pos}
theorem q_repO (ha : QE X C a va) (hb : QE X C b vb) : QE X C (.BinOp a .Mult b pos) (vOp oRepO va vb) := qe_op op_rep sndO_repO ha hb
end
def oEqNB (f : Bool → Bool) : DO := fun d e M R => match lstI M d, e with
  | some ds, .lst [] => R (.bl (f ds.isEmpty)) M
  | _, _ => False
theorem f_eqNB1 {f : Bool → Bool} {ds : List D} {M : Mem} {R : DR} : oEqNB f (.lst ds) (.lst []) M R = R (.bl (f ds.isEmpty)) M := id rfl
theorem f_eqNB2 {f : Bool → Bool} {a : Addr} {M : Mem} {R : DR} : oEqNB f (.own a) (.lst []) M R = (match M a with
    | some (.lst ds) => R (.bl (f ds.isEmpty)) M
    | _ => False) := by
  unfold oEqNB
  have e : lstI M (.own a) = (match M a with
    | some (.lst xs) => some xs
    | _ => none) := by unfold lstI; rfl
  rw [e]
  cases M a with
  | none => rfl
  | some m => cases m <;> rfl
theorem sndO_eqNB {G : Gx} {f : Bool → Bool} : SndO G (rEqN f) (oEqNB f) := fun d e M R H x y Q o i1 i2 h k => by
  unfold oEqNB at h
  cases e1 : lstI M d with
  | none => rw [e1] at h; exact h.elim
  | some ds =>
    rw [e1] at h
    split at h
    · rename_i ds' e'
      obtain rfl : ds = ds' := by injection e'
      obtain ⟨p, us, rfl, l1, h1⟩ := lst_at o i1 e1
      unfold Is at i2
      obtain ⟨b, vs, ey, _, hb, hl2⟩ := i2
      have l2 := hl2.len
      have ev : vs = [] := by cases vs with
        | nil => rfl
        | cons _ _ => simp at l2
      subst ev
      have l1 := l1.len
      have e : us.isEmpty = ds.isEmpty := by
        cases us <;> cases ds <;> simp at l1 ⊢
      exact ⟨p, b, us, rfl, ey, h1, hb, k _ M _ H o is_bl Ext.refl (by rw [e]; exact h)⟩
    · exact h.elim
theorem c_eqNB {X : Cx} {C : Addr} {k : Nat} (hr : Room k X.A) : CmpQ X C .Eq (oEqNB id) := ⟨_, op_eqNl (by have := hr.units; omega), sndO_eqNB⟩
def vIsiB (T : Ty) (a : DE) : DE := fun γ M R => a γ M fun d M1 => match tyM M1 d with
  | some t => R (.bl (t.sub T)) M1
  | none => isLn d = true ∧ R (.bl false) M1
theorem e_vIsiB (T : Ty) (a : DE) (γ : Gm) (M : Mem) (R : DR) : vIsiB T a γ M R = (a γ M fun d M1 => match tyM M1 d with
  | some t => R (.bl (t.sub T)) M1
  | none => isLn d = true ∧ R (.bl false) M1) := id rfl
theorem f_tyMown {M : Mem} {a : Addr} : tyM M (.own a) = (match M a with
    | some (.lst _) => some .lst
    | some (.dct _ _) => some .dct
    | _ => none) := id rfl
section
variable {X : Cx} {C : Addr} {e : Expr} {x : Str} {p pos : Pos}
theorem q_isiB (T : Ty) {y : Str} {v : DE} {p2 : Pos} (I : IsiF X.K X.mg C) (ha : QE X C e v) (hg : Gl X x) (hm : X.mg x = none) (hv : bootBuiltins x = some (.builtin "isinstance")) (hg2 : Gl X y) (hm2 : X.mg y = none) (hv2 : bootBuiltins y = some (.type T.nm)) (hn : x ≠ "__name__" := by decide) (hdb : (x == ("__debug__" : Str)) = false := by decide)
    (hn2 : y ≠ "__name__" := by decide) (hdb2 : (y == ("__debug__" : Str)) = false := by decide)
    (he : starEach (e :: [.Name y p2]) X.env = (false, eval e X.env) :: starEach [.Name y p2] X.env := by rfl) (he2 : starEach [.Name y p2] X.env = (false, eval (.Name y p2) X.env) :: starEach [] X.env := by rfl) (hpl : (backTo pos (starEach [.Name y p2] X.env)).any (·.1) = false := by rfl) : QE X C (.Call (.Name x p) [e, .Name y p2] [] pos) (vIsiB T v) := by
  obtain ⟨ta, pa, sa⟩ := ha.ex
  refine ⟨_, pe_callB call_isi hg hm hv (pa_cons pa (pa_cons (pe_bltn (v := .ty T.nm) hg2 hm2 hv2 rfl hn2 hdb2) pa_nil he2) he) hn hdb he hpl, fun γ M R σ H Q re h k => sa γ M _ σ H _ re h fun d M1 x1 H1 o1 i1 e1 h1 => ?_⟩
  cases q : tyM M1 d with
  | none =>
    rw [q] at h1
    obtain ⟨h0, h1⟩ := h1
    cases d with
    | ln t q o =>
      have i2 := i1
      unfold Is at i2
      obtain ⟨a, dx, q2, ex, ma, hx, mq, hq⟩ := i2
      refine ⟨x1, .ty T.nm, .ref C, _, false, rfl, .ty _, ?_, I.no2 T, k _ M1 _ H1 o1 is_bl e1 h1⟩
      rw [ex]; exact .base (.ins hx I.cls I.attr I.get I.tak I.top)
    | _ => exact absurd h0 Bool.false_ne_true
  | some t =>
    rw [q] at h1
    exact ⟨x1, .ty T.nm, _, _, t.sub T, rfl, .ty _, tyM_ok o1 i1 q, kit_ty (kit_sub t T), k _ M1 _ H1 o1 is_bl e1 h1⟩
end
theorem frzL_self {M' M2 : Mem} : ∀ {ds : List D}, (∀ d ∈ ds, pureD d = true ∨ ∃ p, d = .own p ∧ (M2 p).isSome = true) → FrzL M' M2 ds ds
  | [], _ => trivial
  | d :: ds, h => by
    refine And.intro ?_ (frzL_self fun e he => h e (List.mem_cons_of_mem _ he))
    rcases h d List.mem_cons_self with h | ⟨p, rfl, hp⟩
    · exact .inl ⟨h, rfl⟩
    · exact .inr (.inr ⟨p, rfl, rfl, hp⟩)
theorem fin_lsO {M M' : Mem} {R : DR} {ds : List D} (M2 : Mem) (s : Sub M2 M') (dm : ∀ a, (M a).isSome = true → (M2 a).isSome = true) (hd : ∀ d ∈ ds, pureD d = true ∨ ∃ p, d = .own p ∧ (M2 p).isSome = true) (h : R (.lst ds) M2) : fin M R (.lst ds) M' :=
  ⟨_, M2, s, dm, .inr (.inr (.inl ⟨ds, ds, .inr ⟨rfl, rfl⟩, frzL_self hd⟩)), h⟩
end Dl
namespace Dl
open PySem L2 Builtin Builtin.List
theorem RmU.dct {j d : Nat} {A : Around} (r : RmU j (d + 1) A) (args : Args) : RmU j d (A.under (.builtin "dict.__repr__" args)) :=
  r.bi args (units_under_dict_repr _ _) (by simp [Code.weight, isGuard_dict_repr, Code.frames, Code.isCreation, Code.isCaller, Code.isFrame])
section
variable {X : Cx} {C : Addr} {M : Mem} {H : Hp} {j d : Nat} {as : List Addr}
inductive ReprEs (X : Cx) (C : Addr) (M : Mem) (H : Hp) (j : Nat) (as : List Addr) (d : Nat) : List (Key × V) → List Str → Prop
  | nil : ReprEs X C M H j as d [] []
  | cons {k : Key} {v : V} {t u : Str} {vs : List (Key × V)} {ts : List Str} : ReprU X C M H j as d (kV k) t → ReprU X C M H j as d v u → ReprEs X C M H j as d vs ts → ReprEs X C M H j as d ((k, v) :: vs) ((t ++ ": " ++ u) :: ts)
theorem ReprEs.length_eq : ∀ {vs : List (Key × V)} {ts : List Str}, ReprEs X C M H j as d vs ts → ts.length = vs.length
  | _, _, .nil => rfl
  | _, _, .cons _ _ h => by simp [h.length_eq]
theorem ReprEs.item : ∀ {vs : List (Key × V)} {ts : List Str}, ReprEs X C M H j as d vs ts → ∀ (i : Nat) (k : Key) (v : V), vs[i]? = some (k, v) → ∃ t u : Str, ts[i]? = some (t ++ ": " ++ u) ∧ ReprU X C M H j as d (kV k) t ∧ ReprU X C M H j as d v u
  | _, _, .nil, _, _, _, e => by simp at e
  | _, _, .cons hk hv _, 0, _, _, e => by
    simp at e
    obtain ⟨rfl, rfl⟩ := e
    exact ⟨_, _, rfl, hk, hv⟩
  | _, _, .cons _ _ hl, i + 1, k, v, e => by
    obtain ⟨t, u, ht, h1, h2⟩ := hl.item i k v (by simpa using e)
    exact ⟨t, u, by simpa using ht, h1, h2⟩
theorem dctAtU {a : Addr} {o : Obj} {kvs : List (Key × V)} {ps : List Str} (hM : M a = none) (hH : H a = some (.frz o (.dK kvs))) (hna : a ∉ as) (hE : ReprEs X C M H j as d kvs ps)
    {A : Around} {g : List Code} {pins : List (Addr × Obj)} {σ : St} {s : Shared} {R : Result → Shared → Prop} {base : Nat} {id : String} {rest : List Value}
    (hcg : (Code.builtin id ⟨.ref a :: rest, []⟩).isGuard = true) (hcu : RmU j d (A.under (.builtin id ⟨.ref a :: rest, []⟩)))
    (hg : A.guards = some g) (hcl : ∀ b ∈ a :: as, Clear g b) (hf : A.frames = X.A.frames) (ho : Own ⟨X.K, C⟩ M H) (I : Inv X pins σ H s)
    (hR : ∀ H2 s' u, Ext M M H H2 → Own ⟨X.K, C⟩ M H2 → Inv X pins σ H2 s' → R (.ok (.ret (.str (dictText ps) u))) s')
    (hsz : base + (dictText ps).length ≤ sizeLine) :
    wpOwn (model X.prog X.w) A (.builtin id ⟨.ref a :: rest, []⟩) (Builtin.dictReprAt base ⟨[.ref a], []⟩) (fun fin s' => match fin with | .done f => R (.ok f) s' | .again c' => c'.quiet = true ∧ codeAny (model X.prog X.w) A c' R s') (fun e s' => R (.error e) s') s := by
  obtain ⟨hsys, ha, hc, es, n, vs, hd, hsize, kv, hm⟩ := I.frzK hH
  obtain ⟨o', es', ep', ho', _, hd', _, hpr, _⟩ := hm.dictOf
  rw [ha] at ho'
  cases ho'
  rw [hd] at hd'
  cases hd'
  have hTy : s.TypeIs (.ref a) "dict" := ⟨o, ha, hc.1⟩
  have hca : Clear g a := hcl a (.head _)
  have hlen : ps.length = es.size := by rw [hE.length_eq, hsize]
  have hp3 := piled_le_dictText ps
  have hsz0 : (dictText ps).length ≤ sizeLine := by omega
  unfold Builtin.dictReprAt
  refine wpOwn_bind (wpOwn_of_wpAny ?_)
  unfold Builtin.Dict.dictSlotNone
  refine wpAny_bind (wpAny_notOrdered_dict hTy ?_)
  show wpAny _ _ (pure (Value.ref a)) _ _ s
  refine wpAny_pure ?_
  rw [dictReprRunning_eq]
  refine wpOwn_bind (wpOwn_stackTailAny hg (dictGuardF_off _) (dictGuardF_pos _) ?_)
  have hn : (g.any fun c => dictGuardF (.ref a) (c, default)) = false := by
    rw [List.any_eq_false]
    intro c hcm
    rw [dictGuardF_of_clear hca c hcm]
    exact Bool.false_ne_true
  rw [hn]
  refine wpOwn_of_wpAny ?_
  have hg' := guards_under_guard hcg hg
  have hcl' : ∀ b ∈ as, Clear (.builtin id ⟨.ref a :: rest, []⟩ :: g) b := fun b hb => (hcl b (.tail _ hb)).cons (a := a) fun e => hna (e ▸ hb)
  show wpAny _ _ (Builtin.Dict.addrOf (.ref a) >>= _) _ _ s
  refine wpAny_bind (wpAny_pure ?_)
  show wpAny _ _ (Builtin.Dict.showsAll a >>= _) _ _ s
  unfold Builtin.Dict.showsAll
  rw [if_neg (by rw [hsys]; exact Bool.false_ne_true)]
  refine wpAny_bind (wpAny_pure ?_)
  refine wpAny_bind (wpAny_dictEpoch ha hd ?_)
  refine wpAny_bind (wpAny_dictEntries ha hd ?_)
  refine wpAny_bind ?_
  rw [Std.Legacy.Range.forIn_eq_forIn_range']
  simp only [Std.Legacy.Range.size, Nat.sub_zero, Nat.add_sub_cancel, Nat.div_one]
  refine wpAny_forIn_list _
    (fun rest' r s' => ∃ i H2, rest' = List.range' i (es.size - i) ∧ i ≤ es.size ∧ r = (⟨(ps.take i).toArray, base + piled (ps.take i)⟩ : (Array Str × Nat)) ∧ Ext M M H H2 ∧ Own ⟨X.K, C⟩ M H2 ∧ Inv X pins σ H2 s')
    _ ?_ ?_ _ _ ⟨0, H, by simp, Nat.zero_le _, by simp [piled], Ext.refl, ho, I⟩
  · rintro x rest' _ s' ⟨i, H2, hr, hi, rfl, hx2, ho2, I2⟩
    have hlt : i < es.size := by
      rcases Nat.lt_or_ge i es.size with h | h
      · exact h
      · rw [Nat.sub_eq_zero_of_le h] at hr; simp at hr
    obtain ⟨rfl, hrest⟩ : x = i ∧ rest' = List.range' (i + 1) (es.size - (i + 1)) := by
      have e : es.size - i = (es.size - (i + 1)) + 1 := by omega
      rw [e, List.range'_succ] at hr
      injection hr with h1 h2
      exact ⟨h1, h2⟩
    obtain ⟨⟨k, v⟩, hkv⟩ : ∃ p, kvs[x]? = some p := ⟨_, List.getElem?_eq_getElem (by omega)⟩
    obtain ⟨t, u, hp, rk, rv⟩ := hE.item x k v hkv
    obtain ⟨y, hvy, rvy⟩ := kv_get kv hkv
    obtain ⟨hkey, hval⟩ := hpr.get? (i := x) (e := es[x]) (k := k) (v := y) (by rw [Array.getElem?_toList]; exact Array.getElem?_eq_getElem hlt) hvy
    have rky : RelV (kV k) es[x].key := relV_key hkey
    have hpl : (t ++ ": " ++ u).length = t.length + 2 + u.length := by
      rw [strLen_append, strLen_append]; rfl
    have hp1 := piled_take_succ hp
    have hp2 := piled_take_le ps (x + 1)
    rw [hpl] at hp1
    have at2 : ∀ {H3 : Hp} {s3 : Shared}, Ext M M H H3 → Inv X pins σ H3 s3 → s3.heap.get? a = some o := fun hx I => (I.frzK (hx.st a _ hM hH).1).2.1
    refine wpAny_bind (wpAny_dictEntries (at2 hx2 I2) hd ?_)
    rw [Array.getElem?_eq_getElem hlt]
    rw [← hval] at rvy
    refine wpAny_bind (wpAny_holding (wpAny_bind (rk _ rky (base + piled (ps.take x) + 1) (by omega) _ _ _ _ _ s' H2 _ hg' hcl' (frames_bi hf) hcu hx2 ho2 I2 fun H3 s3 hx3 ho3 I3 =>
      wpAny_bind (rv _ rvy (base + piled (ps.take x) + (t.length + 3)) (by omega) _ _ _ _ _ s3 H3 _ hg' hcl' (frames_bi hf) hcu (hx2.trans hx3) ho3 I3 fun H4 s4 hx4 ho4 I4 => wpAny_pure ?_))))
    have hx4' := (hx2.trans hx3).trans hx4
    refine wpAny_bind (wpAny_dictEpoch (at2 hx4' I4) hd ?_)
    rw [if_neg (by simp)]
    have e1 : (ps.take x).toArray.push (t ++ ": " ++ u) = (ps.take (x + 1)).toArray := by
      rw [List.take_add_one, hp]
      simp
    have e2 : base + piled (ps.take x) + (t.length + u.length + 4) = base + piled (ps.take (x + 1)) := by omega
    refine wpAny_pure ⟨x + 1, H4, hrest, hlt, ?_, hx4', ho4, I4⟩
    rw [e1, e2]
  · rintro _ s' ⟨i, H2, hr, hi, rfl, hx2, ho2, I2⟩
    have hin : i = es.size := by
      rcases Nat.lt_or_ge i es.size with h | h
      · have e : es.size - i = (es.size - (i + 1)) + 1 := by omega
        rw [e, List.range'_succ] at hr; exact nomatch hr
      · exact Nat.le_antisymm hi h
    rw [hin, ← hlen, List.take_length]
    refine wpAny_bind (wpAny_mkStr (wpAny_pure ?_) (by simpa [dictText] using hsz0))
    have h1 := hR H2 { s' with toks := s'.toks + 1 } s'.toks hx2 ho2 (I2.tok _)
    simpa [dictText] using h1
theorem dct_callU {a : Addr} {o : Obj} {kvs : List (Key × V)} {ps : List Str} (hM : M a = none) (hH : H a = some (.frz o (.dK kvs))) (hna : a ∉ as) (hE : ReprEs X C M H j as d kvs ps)
    {A : Around} {g : List Code} {pins : List (Addr × Obj)} {σ : St} {s : Shared} {E : Value → Shared → Prop} {Q : Value → Shared → Prop}
    (hg : A.guards = some g) (hcl : ∀ b ∈ a :: as, Clear g b) (hf : A.frames = X.A.frames) (hr : RmU j (d + 1) A) (ho : Own ⟨X.K, C⟩ M H) (I : Inv X pins σ H s)
    (hQ : ∀ H2 s' u, Ext M M H H2 → Own ⟨X.K, C⟩ M H2 → Inv X pins σ H2 s' → Q (.str (dictText ps) u) s')
    (hsz : (dictText ps).length ≤ sizeLine) : wpAny (model X.prog X.w) A (call (.builtin "dict.__repr__") [.ref a]) Q E s := by
  obtain ⟨hsys, ha, hc, _⟩ := I.frzK hH
  exact wpAny_call (codeAny_call_builtin_own (Code.quiet_builtin _ (by decide +kernel)) F.entry_dict_repr (F.slot_dict_repr.check _ _ _ _ _ _ _ _ ⟨o, ha, hc.1⟩ (F.args_dict_repr_1 _)
    (dctAtU (base := 0) (R := callEnd Q E) hM hH hna hE (isGuard_dict_repr _) (hr.dct _) hg hcl hf ho I hQ (by omega))))
end
section
variable {G : Gx} {M : Mem} {H : Hp} {a : Addr} {kvs : List (Key × V)} {w : HO}
mutual
theorem is_upd (ha : H a = some (.dK kvs)) : ∀ (d : D) (v : V), okX d = true → Is G M H d v → Is G M (upd H a w) d v
  | .non, _, _, i => i
  | .bl _, _, _, i => i
  | .int _, _, _, i => i
  | .str _, _, _, i => i
  | .ln t p o, v, _, i => is_ln_upd (x := (t, p, o)) i ha
  | .tup ds, v, o, i => by
    unfold Is at i ⊢
    obtain ⟨b, xs, e, m, hb, il⟩ := i
    have nb : b ≠ a := fun z => by rw [z, ha] at hb; cases hb
    exact ⟨b, xs, e, m, by rw [upd_ne nb]; exact hb, isL_upd ha ds xs (by simpa only [okX] using o) il⟩
  | .lst ds, v, o, i => by
    unfold Is at i ⊢
    obtain ⟨b, xs, e, m, hb, il⟩ := i
    have nb : b ≠ a := fun z => by rw [z, ha] at hb; cases hb
    exact ⟨b, xs, e, m, by rw [upd_ne nb]; exact hb, isL_upd ha ds xs (by simpa only [okX] using o) il⟩
  | .own _, _, o, _ => by cases o
  | .scr _, _, o, _ => by cases o
  | .exn _ _, _, o, _ => by cases o
  | .exn0 _, _, o, _ => by cases o
  | .dct _ _, _, o, _ => by cases o
  | .cls, _, o, _ => by cases o
theorem isL_upd (ha : H a = some (.dK kvs)) : ∀ (ds : List D) (vs : List V), okXL ds = true → IsL G M H ds vs → IsL G M (upd H a w) ds vs
  | [], [], _, _ => by unfold IsL; trivial
  | [], _ :: _, _, i => by unfold IsL at i; exact i.elim
  | _ :: _, [], _, i => by unfold IsL at i; exact i.elim
  | d :: ds, v :: vs, o, i => by
    unfold IsL at i ⊢
    simp only [okXL, Bool.and_eq_true] at o
    exact ⟨is_upd ha d v o.1 i.1, isL_upd ha ds vs o.2 i.2⟩
end
theorem not_dct {d : D} {o : Obj} (ha : H a = some (.frz o (.dK kvs))) (hd : okX d = true) (i : Is G M H d (.ref a)) : isLn d = true := by
  cases d with
  | ln _ _ _ => rfl
  | tup ds => unfold Is at i; obtain ⟨b, xs, e, _, hb, _⟩ := i; cases e; rw [ha] at hb; cases hb
  | lst ds => unfold Is at i; obtain ⟨b, xs, e, _, hb, _⟩ := i; cases e; rw [ha] at hb; cases hb
  | non => unfold Is at i; cases i
  | bl _ => unfold Is at i; cases i
  | int _ => unfold Is at i; cases i
  | str _ => unfold Is at i; cases i
  | _ => cases hd
theorem atM_no {n : Nat} {bs : List Addr} {o : Obj} (ha : H a = some (.frz o (.dK kvs))) (h : AtM G M H n bs) : a ∉ bs := fun hm => by
  obtain ⟨e, he, k, _⟩ := h a hm
  have l := not_dct ha he k
  cases e <;> first | cases l | skip
  unfold Is at k
  obtain ⟨b, dx, q, e, _, hb, _⟩ := k
  cases e
  rw [ha] at hb
  cases hb
end
def kD : Key → D
  | .inl i => .int i
  | .inr x => .str x
def entT (txt : Int × Int × Int → Str) : List Key → List D → List Str
  | k :: ks, d :: ds => (shX txt (kD k) ++ ": " ++ shX txt d) :: entT txt ks ds
  | _, _ => []
structure ShowD (S : DSp) (d : D) (t : Str) : Prop where
  len : t.length ≤ sizeLine
  ex : ∃ (ks : List Key) (ds : List D) (txt : Int × Int × Int → Str), d = .dct ks ds ∧ (∀ k ∈ ks, okX (kD k) = true) ∧ okXL ds = true ∧ pureL ds = true ∧ depXL ds ≤ 5 ∧ t = dictText (entT txt ks ds) ∧ ∀ x ∈ lnsXL ds, S [.ln x.1 x.2.1 x.2.2] nomem (fun e M' => e = .str (txt x) ∧ M' = nomem) noX
theorem entT_le {txt : Int × Int × Int → Str} : ∀ {ks : List Key} {ds : List D}, piled (entT txt ks ds) ≤ sizeLine → ks.length = ds.length → (∀ k ∈ ks, (shX txt (kD k)).length ≤ sizeLine) ∧ ∀ t ∈ shXL txt ds, t.length ≤ sizeLine
  | [], [], _, _ => ⟨fun k h => (by cases h), fun t h => (by simp only [shXL] at h; cases h)⟩
  | [], _ :: _, _, l => by cases l
  | _ :: _, [], _, l => by cases l
  | k :: ks, d :: ds, h, l => by
    unfold entT at h
    rw [piled_cons, strLen_append, strLen_append] at h
    obtain ⟨h1, h2⟩ := entT_le (txt := txt) (ks := ks) (ds := ds) (by omega) (by simpa using l)
    refine ⟨fun k' hk => ?_, fun t ht => ?_⟩
    · rcases List.mem_cons.mp hk with rfl | hk
      · omega
      · exact h1 k' hk
    · simp only [shXL] at ht
      rcases List.mem_cons.mp ht with rfl | ht
      · omega
      · exact h2 t ht
section
variable {X : Cx} {C : Addr} {M : Mem} {H : Hp} {j : Nat} {txt : Int × Int × Int → Str}
theorem reprK_of {as : List Addr} {d : Nat} (k : Key) (o : okX (kD k) = true) (z : (shX txt (kD k)).length ≤ sizeLine) : ReprU X C M H j as d (kV k) (shX txt (kD k)) := by
  cases k with
  | inl n => exact .of_is fun u r => by obtain ⟨t, rfl⟩ := r; exact ReprIs.int t (by simpa [kD, okX] using o)
  | inr x => exact .of_is fun u r => by obtain ⟨t, rfl⟩ := r; exact ReprIs.str x t z
theorem reprEs_of {k : Nat} {S : DSp} (h : UOk X.prog X.w X.K X.mg X.base C k "__repr__" 1 S) (hkj : k ≤ j) : ∀ (ks : List Key) (ds : List D) (vs : List V), (∀ k ∈ ks, okX (kD k) = true) → okXL ds = true → ks.length = ds.length → IsL ⟨X.K, C⟩ M H ds vs → (∀ x ∈ lnsXL ds, S [.ln x.1 x.2.1 x.2.2] M (fun e M' => e = .str (txt x) ∧ M' = M) noX) → (∀ k ∈ ks, (shX txt (kD k)).length ≤ sizeLine) → (∀ t ∈ shXL txt ds, t.length ≤ sizeLine) →
    ∃ bs, AtM ⟨X.K, C⟩ M H (depXL ds) bs ∧ ReprEs X C M H j bs (depXL ds) (ks.zip vs) (entT txt ks ds)
  | [], [], vs, _, _, _, i, _, _, _ => by
    cases vs with
    | nil => exact ⟨[], (fun _ h => nomatch h), .nil⟩
    | cons _ _ => unfold IsL at i; exact i.elim
  | [], _ :: _, _, _, _, l, _, _, _, _ => by cases l
  | _ :: _, [], _, _, _, l, _, _, _, _ => by cases l
  | k0 :: ks, d :: ds, vs, ok, o, l, i, hs, zk, z => by
    cases vs with
    | nil => unfold IsL at i; exact i.elim
    | cons v vs =>
      unfold IsL at i
      simp only [okXL, Bool.and_eq_true] at o
      obtain ⟨b1, h1, k1⟩ := reprU_of h hkj d v o.1 i.1 (fun x hx => hs x (by simp only [lnsXL]; exact List.mem_append_left _ hx)) (z _ (by simp only [shXL]; exact List.mem_cons_self))
      obtain ⟨b2, h2, k2⟩ := reprEs_of h hkj ks ds vs (fun k hk => ok k (List.mem_cons_of_mem _ hk)) o.2 (by simpa using l) i.2 (fun x hx => hs x (by simp only [lnsXL]; exact List.mem_append_right _ hx)) (fun k hk => zk k (List.mem_cons_of_mem _ hk)) (fun t ht => z t (by simp only [shXL]; exact List.mem_cons_of_mem _ ht))
      refine ⟨b1 ++ b2, fun b hm => ?_, ?_⟩
      · simp only [depXL]
        rcases List.mem_append.mp hm with hm | hm
        · obtain ⟨e, q1, q2, q3⟩ := h1 b hm
          exact ⟨e, q1, q2, Nat.le_trans q3 (Nat.le_max_left _ _)⟩
        · obtain ⟨e, q1, q2, q3⟩ := h2 b hm
          exact ⟨e, q1, q2, Nat.le_trans q3 (Nat.le_max_right _ _)⟩
      · simp only [depXL, entT, List.zip_cons_cons]
        have up : ∀ {vs ts}, ReprEs X C M H j b2 (depXL ds) vs ts → ReprEs X C M H j (b1 ++ b2) (max (depX d) (depXL ds)) vs ts := fun {vs ts} q => by
          induction q with
          | nil => exact .nil
          | cons a b _ ih => exact .cons ((a.more fun b hb => List.mem_append_right _ hb).level (Nat.le_max_right _ _)) ((b.more fun b hb => List.mem_append_right _ hb).level (Nat.le_max_right _ _)) ih
        exact .cons (reprK_of k0 (ok k0 List.mem_cons_self) (zk k0 List.mem_cons_self)) ((k1.more fun b hb => List.mem_append_left _ hb).level (Nat.le_max_left _ _)) (up k2)
def rReprXD (S : DSp) (X : Cx) (C : Addr) (r0 : List V → Hp → VK → Prop) : List V → Hp → VK → Prop := fun xs H Q => r0 xs H Q ∨ ∃ d v t, xs = [v] ∧ Is ⟨X.K, C⟩ nomem H d v ∧ ShowD S d t ∧ ∀ H', (∀ b u, H b = some u → H' b = some u) → Q (.str t) H'
theorem cr_reprXD {j k : Nat} {S : DSp} {r0 : List V → Hp → VK → Prop} (c0 : CallR X (.builtin "repr") r0) (h : UOk X.prog X.w X.K X.mg X.base C k "__repr__" 1 S) (hr : Room j X.A) (hkj : k + 3 ≤ j) (hg : X.A.guards = some []) : CallR X (.builtin "repr") (rReprXD S X C r0) := by
  intro pins s σ H xs us Q I r hh
  rcases hh with hh | ⟨d, v, t, rfl, i, sh, q⟩
  · exact c0 pins s σ H xs us Q I r hh
  obtain ⟨u, rfl, rv⟩ := vals1 r
  obtain ⟨ks, ds, txt, rfl, ok, o, pu, dep, rfl, hl⟩ := sh.ex
  unfold Is at i
  obtain ⟨a, vs, rfl, m, ha, len, il⟩ := i
  obtain rfl : u = Value.ref a := rv
  have z := sh.len
  have na := I.nofrz ha trivial
  obtain ⟨od, I1⟩ := I.lock ha trivial
  have h1 : (upd H a (.frz od (.dK (ks.zip vs)))) a = some (.frz od (.dK (ks.zip vs))) := upd_same
  obtain ⟨z1, z2⟩ := entT_le (Nat.le_trans (piled_le_dictText _) z) len
  obtain ⟨bs, hb, hE⟩ := reprEs_of h (Nat.le_refl k) ks ds vs ok o len (isL_upd (w := .frz od (.dK (ks.zip vs))) ha ds vs o il) hl z1 z2
  have nb : a ∉ bs := atM_no h1 hb
  have rm : ∀ e, e ≤ 9 → RmU k e X.A.in1 := fun e he => ⟨hr.hd, by have := hr.dp; show X.A.depth + _ + _ + _ < _; omega, by have := hr.un; show X.A.units + 1 + _ + _ + _ < _; omega⟩
  obtain ⟨_, gd, xd, _⟩ := I1.frzK h1
  refine call_repr_slot (by have := hr.un; omega) ⟨od, gd, xd.1⟩ F.slot_dict_repr (dct_callU (A := X.A.in1) m h1 nb hE (g := []) hg (fun _ _ => Clear.nil _) rfl (rm (depXL ds + 1) (by omega)) (fun a m z => by cases z) I1 (fun H2 s' u e' _ I' => ⟨_, _, rfl, ?_⟩) z)
  refine ⟨.str _, _, I'.unlock (e'.st a _ m h1).1 na, ⟨u, rfl⟩, q _ fun b w hw => ?_⟩
  by_cases e : b = a
  · rw [e, upd_same]
    rw [e, ha] at hw
    exact hw
  · rw [upd_ne e]
    exact (e'.st b _ rfl (by rw [upd_ne e]; exact hw)).1
def oReprXD (S : DSp) : DC := fun ds M R => (∃ d t, ds = [d] ∧ ShowD S d t ∧ R (.str t) M) ∨ oReprXO S ds M R
theorem b_reprXD {j k : Nat} {S : DSp} (h : UOk X.prog X.w X.K X.mg X.base C k "__repr__" 1 S) (hr : Room j X.A) (hkj : k + 3 ≤ j) (hg : X.A.guards = some []) : BQ X C (.builtin "repr") (oReprXD S) := by
  obtain ⟨r0, c0, h0⟩ := b_reprXO (C := C) h hr hkj hg
  refine ⟨_, cr_reprXD (C := C) c0 h hr hkj hg, fun ds M R H xs Q o i1 hh kk => ?_⟩
  rcases hh with ⟨d, t, rfl, sh, hh⟩ | hh
  · right
    obtain ⟨v, rfl, i⟩ := isL1 i1
    obtain ⟨ks, es, txt, rfl, r⟩ := sh.ex
    refine ⟨_, v, t, rfl, Is.sub (fun _ _ => rfl) _ _ (by unfold pureD; exact r.2.2.1) i, sh, fun H' e' => ?_⟩
    obtain ⟨o2, x2⟩ := own_keep o e'
    exact kk _ M _ H' o2 is_str x2 hh
  · left
    exact h0 ds M R H xs Q o i1 hh kk
end
end Dl
namespace K33
open PySem L2 Dl
def csL : List PySem.Str := ["InvalidLine", "InvalidRange", "InvalidNumber", "InvalidList", "InvalidRecipe"]
def tsL : List PySem.Str := ["InvalidList", "InvalidRecipe", "InvalidNumber"]
theorem in_InvalidLine : (("InvalidLine" : PySem.Str) ∈ csL) = True := eq_true (by decide +kernel)
theorem nf_InvalidLine : noFld ("InvalidLine" : PySem.Str) = false := by decide +kernel
theorem fl_InvalidLine : fldN ("InvalidLine" : PySem.Str) = ("value" : PySem.Str) := by decide +kernel
theorem in_InvalidRange : (("InvalidRange" : PySem.Str) ∈ csL) = True := eq_true (by decide +kernel)
theorem nf_InvalidRange : noFld ("InvalidRange" : PySem.Str) = false := by decide +kernel
theorem fl_InvalidRange : fldN ("InvalidRange" : PySem.Str) = ("value" : PySem.Str) := by decide +kernel
theorem in_InvalidNumber : (("InvalidNumber" : PySem.Str) ∈ csL) = True := eq_true (by decide +kernel)
theorem nf_InvalidNumber : noFld ("InvalidNumber" : PySem.Str) = false := by decide +kernel
theorem fl_InvalidNumber : fldN ("InvalidNumber" : PySem.Str) = ("value" : PySem.Str) := by decide +kernel
theorem in_InvalidList : (("InvalidList" : PySem.Str) ∈ csL) = True := eq_true (by decide +kernel)
theorem nf_InvalidList : noFld ("InvalidList" : PySem.Str) = false := by decide +kernel
theorem fl_InvalidList : fldN ("InvalidList" : PySem.Str) = ("value" : PySem.Str) := by decide +kernel
theorem in_InvalidRecipe : (("InvalidRecipe" : PySem.Str) ∈ csL) = True := eq_true (by decide +kernel)
theorem nf_InvalidRecipe : noFld ("InvalidRecipe" : PySem.Str) = false := by decide +kernel
theorem fl_InvalidRecipe : fldN ("InvalidRecipe" : PySem.Str) = ("value" : PySem.Str) := by decide +kernel
end K33
namespace K33
open PySem L2 Dl
def top (i : Nat) : Stmt := PySem.Challenge.pw_fourtests_k33_pieces_refused.main.body.getD i (.Pass ⟨0, 0, 0, 0⟩)
abbrev s_is_whole : Stmt := top 9
abbrev s_is_piece : Stmt := top 43
abbrev s_check_pieces : Stmt := top 44
abbrev s_check_line : Stmt := top 23
abbrev s_check_range : Stmt := top 12
abbrev s_common_divisor : Stmt := top 14
abbrev s_fraction : Stmt := top 15
abbrev s_check_whole : Stmt := top 10
abbrev s_Line_times : Stmt := inClass (top 22) 1
abbrev s_Line_plus : Stmt := inClass (top 22) 2
abbrev s_Line_over : Stmt := inClass (top 22) 3
abbrev s_Line___call__ : Stmt := inClass (top 22) 7
abbrev s_lowered : Stmt := top 17
abbrev s_raised : Stmt := top 18
abbrev s_greatest : Stmt := top 19
abbrev s_place_of : Stmt := top 26
abbrev s_low_slope : Stmt := top 29
abbrev s_check_parts : Stmt := top 21
abbrev s_Line___init__ : Stmt := inClass (top 22) 0
abbrev s_Line___neg__ : Stmt := inClass (top 22) 13
abbrev s_slopes : Stmt := top 30
abbrev s_less : Stmt := top 16
abbrev s_unfolded : Stmt := top 32
abbrev s_simple_between : Stmt := top 31
abbrev s_highest : Stmt := top 25
abbrev s_simplest : Stmt := top 33
abbrev s_leaning : Stmt := top 34
abbrev s_corners : Stmt := top 45
abbrev s_bars_of : Stmt := top 46
abbrev s_pieces_slopes : Stmt := top 47
abbrev s_no_line : Stmt := top 48
abbrev s_is_bar : Stmt := top 49
abbrev s_meaning : Stmt := top 50
abbrev s_check_no_line : Stmt := top 51
abbrev s_check_base : Stmt := top 11
abbrev s_inside : Stmt := top 41
abbrev s_power : Stmt := top 13
abbrev s_pieces_recipe : Stmt := top 53
abbrev s_is_recipe : Stmt := top 38
abbrev s_check_recipe : Stmt := top 39
abbrev s_recipe_line : Stmt := top 40
abbrev s_check_two : Stmt := top 28
abbrev s_follows : Stmt := top 27
abbrev s_agrees : Stmt := top 35
abbrev s_first_apart : Stmt := top 36
abbrev s_pieces_fault : Stmt := top 52
abbrev s__law_caught : Stmt := top 65
abbrev s_Line___repr__ : Stmt := inClass (top 22) 12
abbrev s__law_list_right : Stmt := top 67
abbrev s__law_line : Stmt := top 63
abbrev s__law_bad : Stmt := top 66
abbrev s__law_cell : Stmt := top 55
abbrev s__law_generator : Stmt := top 57
abbrev s__law_hash : Stmt := top 56
abbrev s__law_random : Stmt := top 58
abbrev s__law_size : Stmt := top 59
abbrev s__law_signed : Stmt := top 60
abbrev s__law_parts : Stmt := top 61
abbrev s__law_ends : Stmt := top 62
abbrev s__law_task : Stmt := top 64
abbrev s_Line___add__ : Stmt := inClass (top 22) 14
abbrev s__law_bases_right : Stmt := top 68
abbrev s_law : Stmt := top 69
def fnL : List He5.DefA := [
  ⟨fun K => He.ga K "is_whole", "is_whole", "is_whole", defArgs s_is_whole, defBody s_is_whole, defScope s_is_whole, [], []⟩,
  ⟨fun K => He.ga K "is_piece", "is_piece", "is_piece", defArgs s_is_piece, defBody s_is_piece, defScope s_is_piece, [], []⟩,
  ⟨fun K => He.ga K "check_pieces", "check_pieces", "check_pieces", defArgs s_check_pieces, defBody s_check_pieces, defScope s_check_pieces, [], []⟩,
  ⟨fun K => He.ga K "check_line", "check_line", "check_line", defArgs s_check_line, defBody s_check_line, defScope s_check_line, [], []⟩,
  ⟨fun K => He.ga K "check_range", "check_range", "check_range", defArgs s_check_range, defBody s_check_range, defScope s_check_range, [], []⟩,
  ⟨fun K => He.ga K "common_divisor", "common_divisor", "common_divisor", defArgs s_common_divisor, defBody s_common_divisor, defScope s_common_divisor, [], []⟩,
  ⟨fun K => He.ga K "fraction", "fraction", "fraction", defArgs s_fraction, defBody s_fraction, defScope s_fraction, [], []⟩,
  ⟨fun K => He.ga K "check_whole", "check_whole", "check_whole", defArgs s_check_whole, defBody s_check_whole, defScope s_check_whole, [.non], []⟩,
  ⟨fun K => propG K (He.ga K "Line") "times", "times", "Line.times", defArgs s_Line_times, defBody s_Line_times, defScope s_Line_times, [], []⟩,
  ⟨fun K => propG K (He.ga K "Line") "plus", "plus", "Line.plus", defArgs s_Line_plus, defBody s_Line_plus, defScope s_Line_plus, [], []⟩,
  ⟨fun K => propG K (He.ga K "Line") "over", "over", "Line.over", defArgs s_Line_over, defBody s_Line_over, defScope s_Line_over, [], []⟩,
  ⟨fun K => He.ma K (He.ga K "Line") "__call__", "__call__", "Line.__call__", defArgs s_Line___call__, defBody s_Line___call__, defScope s_Line___call__, [], []⟩,
  ⟨fun K => He.ga K "lowered", "lowered", "lowered", defArgs s_lowered, defBody s_lowered, defScope s_lowered, [], []⟩,
  ⟨fun K => He.ga K "raised", "raised", "raised", defArgs s_raised, defBody s_raised, defScope s_raised, [], []⟩,
  ⟨fun K => He.ga K "greatest", "greatest", "greatest", defArgs s_greatest, defBody s_greatest, defScope s_greatest, [], []⟩,
  ⟨fun K => He.ga K "place_of", "place_of", "place_of", defArgs s_place_of, defBody s_place_of, defScope s_place_of, [], []⟩,
  ⟨fun K => He.ga K "low_slope", "low_slope", "low_slope", defArgs s_low_slope, defBody s_low_slope, defScope s_low_slope, [], []⟩,
  ⟨fun K => He.ga K "check_parts", "check_parts", "check_parts", defArgs s_check_parts, defBody s_check_parts, defScope s_check_parts, [], []⟩,
  ⟨fun K => He.ma K (He.ga K "Line") "__init__", "__init__", "Line.__init__", defArgs s_Line___init__, defBody s_Line___init__, defScope s_Line___init__, [], []⟩,
  ⟨fun K => He.ma K (He.ga K "Line") "__neg__", "__neg__", "Line.__neg__", defArgs s_Line___neg__, defBody s_Line___neg__, defScope s_Line___neg__, [], []⟩,
  ⟨fun K => He.ga K "slopes", "slopes", "slopes", defArgs s_slopes, defBody s_slopes, defScope s_slopes, [], []⟩,
  ⟨fun K => He.ga K "less", "less", "less", defArgs s_less, defBody s_less, defScope s_less, [], []⟩,
  ⟨fun K => He.ga K "unfolded", "unfolded", "unfolded", defArgs s_unfolded, defBody s_unfolded, defScope s_unfolded, [], []⟩,
  ⟨fun K => He.ga K "simple_between", "simple_between", "simple_between", defArgs s_simple_between, defBody s_simple_between, defScope s_simple_between, [], []⟩,
  ⟨fun K => He.ga K "highest", "highest", "highest", defArgs s_highest, defBody s_highest, defScope s_highest, [], []⟩,
  ⟨fun K => He.ga K "simplest", "simplest", "simplest", defArgs s_simplest, defBody s_simplest, defScope s_simplest, [], []⟩,
  ⟨fun K => He.ga K "leaning", "leaning", "leaning", defArgs s_leaning, defBody s_leaning, defScope s_leaning, [], []⟩,
  ⟨fun K => He.ga K "corners", "corners", "corners", defArgs s_corners, defBody s_corners, defScope s_corners, [], []⟩,
  ⟨fun K => He.ga K "bars_of", "bars_of", "bars_of", defArgs s_bars_of, defBody s_bars_of, defScope s_bars_of, [], []⟩,
  ⟨fun K => He.ga K "pieces_slopes", "pieces_slopes", "pieces_slopes", defArgs s_pieces_slopes, defBody s_pieces_slopes, defScope s_pieces_slopes, [], []⟩,
  ⟨fun K => He.ga K "no_line", "no_line", "no_line", defArgs s_no_line, defBody s_no_line, defScope s_no_line, [], []⟩,
  ⟨fun K => He.ga K "is_bar", "is_bar", "is_bar", defArgs s_is_bar, defBody s_is_bar, defScope s_is_bar, [], []⟩,
  ⟨fun K => He.ga K "meaning", "meaning", "meaning", defArgs s_meaning, defBody s_meaning, defScope s_meaning, [], []⟩,
  ⟨fun K => He.ga K "check_no_line", "check_no_line", "check_no_line", defArgs s_check_no_line, defBody s_check_no_line, defScope s_check_no_line, [], []⟩,
  ⟨fun K => He.ga K "check_base", "check_base", "check_base", defArgs s_check_base, defBody s_check_base, defScope s_check_base, [], []⟩,
  ⟨fun K => He.ga K "inside", "inside", "inside", defArgs s_inside, defBody s_inside, defScope s_inside, [], []⟩,
  ⟨fun K => He.ga K "power", "power", "power", defArgs s_power, defBody s_power, defScope s_power, [], []⟩,
  ⟨fun K => He.ga K "pieces_recipe", "pieces_recipe", "pieces_recipe", defArgs s_pieces_recipe, defBody s_pieces_recipe, defScope s_pieces_recipe, [], [("base", .int (2))]⟩,
  ⟨fun K => He.ga K "is_recipe", "is_recipe", "is_recipe", defArgs s_is_recipe, defBody s_is_recipe, defScope s_is_recipe, [], []⟩,
  ⟨fun K => He.ga K "check_recipe", "check_recipe", "check_recipe", defArgs s_check_recipe, defBody s_check_recipe, defScope s_check_recipe, [], []⟩,
  ⟨fun K => He.ga K "recipe_line", "recipe_line", "recipe_line", defArgs s_recipe_line, defBody s_recipe_line, defScope s_recipe_line, [], [("base", .int (2))]⟩,
  ⟨fun K => He.ga K "check_two", "check_two", "check_two", defArgs s_check_two, defBody s_check_two, defScope s_check_two, [], []⟩,
  ⟨fun K => He.ga K "follows", "follows", "follows", defArgs s_follows, defBody s_follows, defScope s_follows, [], []⟩,
  ⟨fun K => He.ga K "agrees", "agrees", "agrees", defArgs s_agrees, defBody s_agrees, defScope s_agrees, [], []⟩,
  ⟨fun K => He.ga K "first_apart", "first_apart", "first_apart", defArgs s_first_apart, defBody s_first_apart, defScope s_first_apart, [], []⟩,
  ⟨fun K => He.ga K "pieces_fault", "pieces_fault", "pieces_fault", defArgs s_pieces_fault, defBody s_pieces_fault, defScope s_pieces_fault, [], [("base", .int (2))]⟩,
  ⟨fun K => He.ga K "_law_caught", "_law_caught", "_law_caught", defArgs s__law_caught, defBody s__law_caught, defScope s__law_caught, [], []⟩,
  ⟨fun K => He.ma K (He.ga K "Line") "__repr__", "__repr__", "Line.__repr__", defArgs s_Line___repr__, defBody s_Line___repr__, defScope s_Line___repr__, [], []⟩,
  ⟨fun K => He.ga K "_law_list_right", "_law_list_right", "_law_list_right", defArgs s__law_list_right, defBody s__law_list_right, defScope s__law_list_right, [], []⟩,
  ⟨fun K => He.ga K "_law_line", "_law_line", "_law_line", defArgs s__law_line, defBody s__law_line, defScope s__law_line, [], []⟩,
  ⟨fun K => He.ga K "_law_bad", "_law_bad", "_law_bad", defArgs s__law_bad, defBody s__law_bad, defScope s__law_bad, [], []⟩,
  ⟨fun K => He.ga K "_law_cell", "_law_cell", "_law_cell", defArgs s__law_cell, defBody s__law_cell, defScope s__law_cell, [], []⟩,
  ⟨fun K => He.ga K "_law_generator", "_law_generator", "_law_generator", defArgs s__law_generator, defBody s__law_generator, defScope s__law_generator, [], []⟩,
  ⟨fun K => He.ga K "_law_hash", "_law_hash", "_law_hash", defArgs s__law_hash, defBody s__law_hash, defScope s__law_hash, [], []⟩,
  ⟨fun K => He.ga K "_law_random", "_law_random", "_law_random", defArgs s__law_random, defBody s__law_random, defScope s__law_random, [], []⟩,
  ⟨fun K => He.ga K "_law_size", "_law_size", "_law_size", defArgs s__law_size, defBody s__law_size, defScope s__law_size, [], []⟩,
  ⟨fun K => He.ga K "_law_signed", "_law_signed", "_law_signed", defArgs s__law_signed, defBody s__law_signed, defScope s__law_signed, [], []⟩,
  ⟨fun K => He.ga K "_law_parts", "_law_parts", "_law_parts", defArgs s__law_parts, defBody s__law_parts, defScope s__law_parts, [], []⟩,
  ⟨fun K => He.ga K "_law_ends", "_law_ends", "_law_ends", defArgs s__law_ends, defBody s__law_ends, defScope s__law_ends, [], []⟩,
  ⟨fun K => He.ga K "_law_task", "_law_task", "_law_task", defArgs s__law_task, defBody s__law_task, defScope s__law_task, [], []⟩,
  ⟨fun K => He.ma K (He.ga K "Line") "__add__", "__add__", "Line.__add__", defArgs s_Line___add__, defBody s_Line___add__, defScope s_Line___add__, [], []⟩,
  ⟨fun K => He.ga K "_law_bases_right", "_law_bases_right", "_law_bases_right", defArgs s__law_bases_right, defBody s__law_bases_right, defScope s__law_bases_right, [], []⟩,
  ⟨fun K => He.ga K "law", "law", "law", defArgs s_law, defBody s_law, defScope s_law, [], []⟩]
abbrev se_InvalidList : Stmt := inClass (top 6) 0
def de_InvalidList : DefE := ⟨"InvalidList", "InvalidList.__init__", defArgs se_InvalidList, defBody se_InvalidList, defScope se_InvalidList⟩
theorem tx_InvalidList : TxE de_InvalidList := ⟨⟨_, _, _, _, _, _, _, _, _, _, rfl, fun _ => ⟨_, rfl⟩⟩, rfl, rfl, rfl, rfl, rfl, by decide +kernel, ⟨rfl, rfl, rfl⟩, ⟨by decide +kernel, by decide +kernel, by decide +kernel⟩, fun _ _ _ _ _ _ _ us _ hl => match us, hl with | [_, _], _ => ⟨_, rfl, rfl⟩⟩
abbrev se_InvalidNumber : Stmt := inClass (top 5) 0
def de_InvalidNumber : DefE := ⟨"InvalidNumber", "InvalidNumber.__init__", defArgs se_InvalidNumber, defBody se_InvalidNumber, defScope se_InvalidNumber⟩
theorem tx_InvalidNumber : TxE de_InvalidNumber := ⟨⟨_, _, _, _, _, _, _, _, _, _, rfl, fun _ => ⟨_, rfl⟩⟩, rfl, rfl, rfl, rfl, rfl, by decide +kernel, ⟨rfl, rfl, rfl⟩, ⟨by decide +kernel, by decide +kernel, by decide +kernel⟩, fun _ _ _ _ _ _ _ us _ hl => match us, hl with | [_, _], _ => ⟨_, rfl, rfl⟩⟩
abbrev se_InvalidRecipe : Stmt := inClass (top 7) 0
def de_InvalidRecipe : DefE := ⟨"InvalidRecipe", "InvalidRecipe.__init__", defArgs se_InvalidRecipe, defBody se_InvalidRecipe, defScope se_InvalidRecipe⟩
theorem tx_InvalidRecipe : TxE de_InvalidRecipe := ⟨⟨_, _, _, _, _, _, _, _, _, _, rfl, fun _ => ⟨_, rfl⟩⟩, rfl, rfl, rfl, rfl, rfl, by decide +kernel, ⟨rfl, rfl, rfl⟩, ⟨by decide +kernel, by decide +kernel, by decide +kernel⟩, fun _ _ _ _ _ _ _ us _ hl => match us, hl with | [_, _], _ => ⟨_, rfl, rfl⟩⟩
def esL : List DefE := [de_InvalidList, de_InvalidNumber, de_InvalidRecipe]
def exL (K : PySem.W.Frag) : Bool := isiB K (He.ga K "Line") && (propB K (He.ga K "Line") "times" && (propB K (He.ga K "Line") "plus" && (propB K (He.ga K "Line") "over" && (callB K (He.ga K "Line") && (opB K (He.ga K "Line") "__neg__" && (opB K (He.ga K "Line") "__repr__" && (exAllB K csL tsL && (opB K (He.ga K "Line") "__add__" && (binB K (He.ga K "Line") .Add && (true))))))))))
def faL : List He.Fa := [.glo "is_whole", .glo "is_piece", .glo "check_pieces", .glo "check_line", .glo "check_range", .glo "common_divisor", .glo "fraction", .glo "check_whole", .keep "law", .keep "law", .keep "law", .keep "law", .glo "lowered", .glo "raised", .glo "greatest", .glo "place_of", .glo "low_slope", .glo "check_parts", .keep "law", .keep "law", .glo "slopes", .glo "less", .glo "unfolded", .glo "simple_between", .glo "highest", .glo "simplest", .glo "leaning", .glo "corners", .glo "bars_of", .glo "pieces_slopes", .glo "no_line", .glo "is_bar", .glo "meaning", .glo "check_no_line", .glo "check_base", .glo "inside", .glo "power", .glo "pieces_recipe", .glo "is_recipe", .glo "check_recipe", .glo "recipe_line", .glo "check_two", .glo "follows", .glo "agrees", .glo "first_apart", .glo "pieces_fault", .glo "_law_caught", .keep "law", .glo "_law_list_right", .glo "_law_line", .glo "_law_bad", .glo "_law_cell", .glo "_law_generator", .glo "_law_hash", .glo "_law_random", .glo "_law_size", .glo "_law_signed", .glo "_law_parts", .glo "_law_ends", .glo "_law_task", .keep "law", .glo "_law_bases_right", .glo "law", .free "abs", .free "bool", .free "enumerate", .free "int", .free "isinstance", .free "len", .free "list", .free "max", .free "min", .free "range", .free "repr", .free "super", .free "tuple", .cls "Line", .noat "Line" "parts", .glo "Line", .mkr "Line", .glo "FourTestsError", .glo "InvalidLine", .glo "InvalidRange", .glo "InvalidNumber", .glo "InvalidList", .glo "InvalidRecipe"]
abbrev Rw : PySem.W.OpenRow := PySem.W.OpenLaw.row PySem.Challenge.rw_fourtests_k33_pieces_refused
def asL : List Addr := [3, 2, 31, 54, 120, 98, 76, 142, 405, 30, 53, 119, 97, 75, 141, 404, 29, 32, 51, 52, 117, 118, 95, 96, 73, 74, 139, 140, 243, 251, 259, 267, 276, 286, 296, 304, 311, 318, 325, 332, 339, 346, 353, 360, 367, 374, 381, 388, 395, 402, 403, 406, 407, 50, 43, 38, 116, 109, 104, 94, 87, 82, 72, 65, 60, 138, 131, 126, 242, 250, 258, 266, 274, 275, 284, 285, 294, 295, 303, 310, 317, 324, 331, 338, 345, 352, 359, 366, 373, 380, 387, 394, 401, 678, 692, 671, 601, 650, 615, 608, 657, 685, 643, 622, 636, 629, 664, 491, 549, 166, 416, 580, 229, 537, 173, 510, 444, 159, 187, 542, 498, 437, 194, 222, 423, 525, 568, 532, 503, 151, 697, 484, 201, 451, 208, 575, 563, 588, 594, 556, 430, 180, 215, 518, 465, 479, 458, 472, 677, 691, 670, 600, 649, 614, 607, 656, 684, 642, 621, 635, 628, 663, 490, 548, 165, 415, 579, 228, 536, 172, 509, 443, 158, 152, 186, 541, 497, 436, 193, 221, 422, 524, 567, 531, 502, 150, 696, 483, 200, 450, 207, 574, 562, 587, 581, 593, 589, 555, 429, 179, 214, 517, 511, 464, 478, 457, 471, 265, 257, 249]
abbrev hk : PySem.W.Hook := hook4 asL exL faL fnL "/claim/cut.py" esL
def ob (s : PySem.W.SharedT) : AlE := ob4 asL exL faL fnL "/claim/cut.py" esL (HandSHeadRun.getT s)
theorem ob_eq (s : PySem.W.SharedT) : ob s = hk.obs s.abs := ob4_eq (HandSHeadRun.getT_eq s)
def nm0 : List PySem.Str := ["_wall", "__name__", "FourTestsError", "InvalidLine", "InvalidRange", "InvalidNumber", "InvalidList", "InvalidRecipe", "is_whole", "check_whole", "check_base", "check_range", "power", "common_divisor", "fraction", "less", "lowered", "raised", "greatest", "check_parts"]
def nm1 : List PySem.Str := ["Line", "check_line", "highest", "place_of", "follows", "check_two", "low_slope", "slopes", "simple_between", "unfolded", "simplest", "leaning", "agrees", "first_apart", "is_recipe", "check_recipe", "recipe_line", "inside", "is_piece", "check_pieces"]
def nm2 : List PySem.Str := ["corners", "bars_of", "pieces_slopes", "no_line", "is_bar", "meaning", "check_no_line", "pieces_fault", "pieces_recipe", "_law_cell", "_law_hash", "_law_generator", "_law_random", "_law_size", "_law_signed", "_law_parts", "_law_ends", "_law_line", "_law_task", "_law_caught"]
def nm3 : List PySem.Str := ["_law_bad", "_law_list_right", "_law_bases_right"]
def names : List PySem.Str := nm0 ++ nm1 ++ nm2 ++ nm3
theorem run (w : World) : HandSHeadRun.RunEq Rw (PySem.W.view Rw.prog [69]) hk ob 20000 names w := by
  intro os
  kernel_rfl
end K33
namespace Mth
end Mth
namespace Dl
open PySem L2
theorem sm_small {n : Int} (h0 : -100000 < n) (h1 : n < 100000) : Sm 9000 n := (sm_of (n := 20) (by omega) (by omega)).mono (by decide)
theorem two_pos (n : Nat) : (0 : Int) < 2 ^ n := Int.pow_pos (by decide)
end Dl
namespace Dl
open PySem L2
theorem two_dvd (a b : Nat) (h : a ≤ b) : (2 : Int) ^ a ∣ 2 ^ b := by
  obtain ⟨c, rfl⟩ : ∃ c, b = a + c := ⟨b - a, by omega⟩
  rw [Int.pow_add]
  exact Int.dvd_mul_right _ _
theorem two_mono (a b : Nat) (h : a ≤ b) : (2 : Int) ^ a ≤ 2 ^ b := Int.le_of_dvd (two_pos _) (two_dvd a b h)
end Dl
namespace Dl
open PySem L2
end Dl
namespace Dl
open PySem L2
theorem Sm.div {a : Nat} {t o : Int} (h : Sm a t) (ho : 0 < o) : Sm a (t / o) := by
  have h1 := h.lt
  have h2 := h.gt
  rcases Int.lt_or_le t 0 with h0 | h0
  · have h3 : t ≤ t / o := by
      rw [Int.le_ediv_iff_mul_le ho]
      have : t * o ≤ t * 1 := Int.mul_le_mul_of_nonpos_left (by omega) (by omega)
      omega
    have h4 : t / o < 0 := Int.ediv_neg_of_neg_of_pos h0 ho
    exact sm_of (by omega) (by omega)
  · have h3 : 0 ≤ t / o := Int.ediv_nonneg h0 (by omega)
    have h4 : t / o ≤ t := Int.ediv_le_self _ h0
    exact sm_of (by omega) (by omega)
theorem Sm.le {a : Nat} {x o : Int} (h : Sm a o) (h0 : 0 ≤ x) (h1 : x ≤ o) : Sm a x := by
  have h2 := h.lt
  exact sm_of (by omega) (by omega)
end Dl
namespace Dl
open PySem L2
inductive RowM where
  | given
  | number (n : Int)
  | add (i j : Nat)
  | sub (i j : Nat)
  | times (i : Nat) (n : Int)
  | floor (i : Nat) (k : Int)
  | rest (i : Nat) (k : Int)
  | quo (i : Nat) (k : Int)
  | rem (i : Nat) (k : Int)
def quoM (v k : Int) : Int := if v < 0 then -(-v / k) else v / k
end Dl
namespace Dl
open PySem L2
def gcdI (a b : Int) : Int := (Nat.gcd a.natAbs b.natAbs : Nat)
theorem gcdI_pos {a b : Int} (h : 1 ≤ b) : 0 < gcdI a b := by
  unfold gcdI
  have : 0 < Nat.gcd a.natAbs b.natAbs := Nat.gcd_pos_of_pos_right _ (by omega)
  omega
theorem gcdI_le {a b : Int} (h : 1 ≤ b) : gcdI a b ≤ b := by
  unfold gcdI
  have : Nat.gcd a.natAbs b.natAbs ≤ b.natAbs := Nat.gcd_le_right _ (by omega)
  omega
theorem gcdI_left (a b : Int) : ∃ k, a = gcdI a b * k := by
  obtain ⟨k, hk⟩ := Nat.gcd_dvd_left a.natAbs b.natAbs
  rcases Int.natAbs_eq a with h | h
  · exact ⟨k, by rw [h]; unfold gcdI; rw [Int.natAbs_natCast, ← Int.natCast_mul, ← hk]⟩
  · refine ⟨-(k : Int), ?_⟩
    unfold gcdI
    rw [Int.mul_neg, ← Int.natCast_mul, ← hk]
    omega
theorem gcdI_right (a b : Int) : ∃ k, b = gcdI a b * k := by
  obtain ⟨k, hk⟩ := Nat.gcd_dvd_right a.natAbs b.natAbs
  rcases Int.natAbs_eq b with h | h
  · exact ⟨k, by rw [h]; unfold gcdI; rw [Int.natAbs_natCast, ← Int.natCast_mul, ← hk]⟩
  · refine ⟨-(k : Int), ?_⟩
    unfold gcdI
    rw [Int.mul_neg, ← Int.natCast_mul, ← hk]
    omega
theorem gcdI_mul {g a b : Int} (h : 0 ≤ g) : gcdI (g * a) (g * b) = g * gcdI a b := by
  unfold gcdI
  rw [Int.natAbs_mul, Int.natAbs_mul, Nat.gcd_mul_left, Int.natCast_mul]
  have : (g.natAbs : Int) = g := by omega
  rw [this]
abbrev Tr := Int × Int × Int
def nrm (t p o : Int) : Tr := (t / gcdI t o, p / gcdI t o, o / gcdI t o)
theorem div_left {g k : Int} (h : 0 < g) : g * k / g = k := Int.mul_ediv_cancel_left k (by omega)
theorem nrm_of {t p o : Int} (ho : 1 ≤ o) : ∃ g, 0 < g ∧ t = g * (nrm t p o).1 ∧ p / g = (nrm t p o).2.1 ∧ o = g * (nrm t p o).2.2 ∧ 1 ≤ (nrm t p o).2.2 := by
  have hg := gcdI_pos (a := t) ho
  obtain ⟨a, ha⟩ := gcdI_left t o
  obtain ⟨b, hb⟩ := gcdI_right t o
  have e1 : t / gcdI t o = a := by
    have := div_left (g := gcdI t o) (k := a) hg
    rw [← ha] at this; exact this
  have e2 : o / gcdI t o = b := by
    have := div_left (g := gcdI t o) (k := b) hg
    rw [← hb] at this; exact this
  refine ⟨gcdI t o, hg, ?_, rfl, ?_, ?_⟩
  · show t = gcdI t o * (t / gcdI t o)
    rw [e1]; exact ha
  · show o = gcdI t o * (o / gcdI t o)
    rw [e2]; exact hb
  · show 1 ≤ o / gcdI t o
    rw [e2]
    rcases Int.lt_or_le 0 b with z | z
    · omega
    · have := Int.mul_nonpos_of_nonneg_of_nonpos (Int.le_of_lt hg) z
      omega
theorem nrm_coprime {t p o : Int} (ho : 1 ≤ o) : gcdI (nrm t p o).1 (nrm t p o).2.2 = 1 := by
  obtain ⟨g, hg, e1, e2, e3, e4⟩ := nrm_of (t := t) (p := p) ho
  have hp := gcdI_pos (a := t) ho
  have h : gcdI t o = gcdI t o * gcdI (nrm t p o).1 (nrm t p o).2.2 := by
    rw [← gcdI_mul (by omega)]
    have a1 : gcdI t o * (nrm t p o).1 = t := by
      obtain ⟨a, ha⟩ := gcdI_left t o
      show gcdI t o * (t / gcdI t o) = t
      have := div_left (g := gcdI t o) (k := a) hp
      rw [← ha] at this; rw [this]; exact ha.symm
    have a2 : gcdI t o * (nrm t p o).2.2 = o := by
      obtain ⟨a, ha⟩ := gcdI_right t o
      show gcdI t o * (o / gcdI t o) = o
      have := div_left (g := gcdI t o) (k := a) hp
      rw [← ha] at this; rw [this]; exact ha.symm
    rw [a1, a2]
  have h2 : gcdI t o * gcdI (nrm t p o).1 (nrm t p o).2.2 = gcdI t o * 1 := by rw [← h, Int.mul_one]
  exact Int.eq_of_mul_eq_mul_left (by omega) h2
def trD (x : Tr) : D := .tup [.int x.1, .int x.2.1, .int x.2.2]
def lnV (t p o n : Int) : Int := (t * n + p) / o
end Dl
namespace Dl
open PySem L2
def trL (x : Tr) : D := .ln x.1 x.2.1 x.2.2
def nr (x : Tr) : Tr := nrm x.1 x.2.1 x.2.2
def vl (x : Tr) (n : Int) : Int := lnV x.1 x.2.1 x.2.2 n
def negT (x : Tr) : Tr := (-x.1, x.2.2 - 1 - x.2.1, x.2.2)
def TOk (a b : Nat) (x : Tr) : Prop := 1 ≤ x.2.2 ∧ Sm a x.2.2 ∧ Sm b x.1 ∧ Sm b x.2.1
theorem TOk.mono {a b c d : Nat} {x : Tr} (h : TOk a b x) (h1 : a ≤ c) (h2 : b ≤ d) : TOk c d x := ⟨h.1, h.2.1.mono h1, h.2.2.1.mono h2, h.2.2.2.mono h2⟩
theorem nr_pos {x : Tr} (h : 1 ≤ x.2.2) : 1 ≤ (nr x).2.2 := (nrm_of (t := x.1) (p := x.2.1) h).choose_spec.2.2.2.2
theorem nr_ok {a b : Nat} {x : Tr} (h : TOk a b x) : TOk a b (nr x) := by
  obtain ⟨h1, h2, h3, h4⟩ := h
  have g := gcdI_pos (a := x.1) h1
  exact ⟨nr_pos h1, h2.div g, h3.div g, h4.div g⟩
theorem pow_le {a b : Nat} (h : a ≤ b) : (2 : Int) ^ a ≤ 2 ^ b := by
  have := Nat.pow_le_pow_right (n := 2) (by decide) h
  have e1 : ((2 ^ a : Nat) : Int) = 2 ^ a := by simp
  have e2 : ((2 ^ b : Nat) : Int) = 2 ^ b := by simp
  omega
def LsOk (ls : List (Option Tr)) : Prop := ∀ i x, ls[i]? = some (some x) → TOk (400 * (i + 1)) (26000 * (i + 1)) x
theorem gcdI_neg (a b : Int) : gcdI (-a) b = gcdI a b := by unfold gcdI; rw [Int.natAbs_neg]
theorem LsOk.nr {ls : List (Option Tr)} (h : LsOk ls) : LsOk (ls.map (Option.map nr)) := by
  intro i x e
  rw [List.getElem?_map] at e
  cases q : ls[i]? with
  | none => rw [q] at e; cases e
  | some o =>
    rw [q] at e
    cases o with
    | none => cases e
    | some y => cases e; exact nr_ok (h i y q)
end Dl
namespace Dl
open PySem L2
def B29 (x : Int) : Prop := -10 ^ 29 ≤ x ∧ x ≤ 10 ^ 29
theorem B29.sm {x : Int} (h : B29 x) : Sm 97 x := by
  have e : (10 : Int) ^ 29 < 2 ^ 97 := by decide +kernel
  exact sm_of (by have := h.1; omega) (by have := h.2; omega)
structure PtOk (x : Tr) : Prop where
  t : B29 x.1
  p : B29 x.2.1
  o : B29 x.2.2
  o1 : 1 ≤ x.2.2
structure NrOk (x : Tr) : Prop where
  o1 : 1 ≤ x.2.2
  t : Sm 300 x.1
  p : Sm 320 x.2.1
  o : Sm 200 x.2.2
theorem PtOk.nr {x : Tr} (h : PtOk x) : NrOk x := ⟨h.o1, h.t.sm.mono (by decide), h.p.sm.mono (by decide), h.o.sm.mono (by decide)⟩
theorem B29.le {x : Int} (h : B29 x) : -10 ^ 29 ≤ x ∧ x ≤ 10 ^ 29 := h
end Dl
namespace Dl
open PySem L2
abbrev Pr := Int × Int
def mn (a b : Int) : Int := if b < a then b else a
def mx (a b : Int) : Int := if b > a then b else a
def restE (l h k : Int) : Pr := if l / k = h / k then (l % k, h % k) else (0, k - 1)
def negE (l h k : Int) : Pr := (-(restE (mx (-h) 0) (-l) k).2, -(restE (mx (-h) 0) (-l) k).1)
def posE (l h k : Int) : Pr := restE (mx l 0) h k
def remE (l h k : Int) : Pr := if 0 ≤ h then (if l < 0 then (mn (posE l h k).1 (negE l h k).1, mx (posE l h k).2 (negE l h k).2) else posE l h k) else negE l h k
def remF (x k : Int) : Int := x - k * quoM x k
theorem eu {a k q r : Int} (hk : 0 < k) (h : a = k * q + r) (h0 : 0 ≤ r) (h1 : r < k) : a / k = q ∧ a % k = r :=
  (Int.ediv_emod_unique hk).mpr ⟨by omega, h0, h1⟩
theorem qr (x : Int) {k : Int} (hk : 0 < k) : ∃ q r, x = k * q + r ∧ 0 ≤ r ∧ r < k ∧ x / k = q ∧ x % k = r :=
  ⟨x / k, x % k, by rw [Int.mul_ediv_add_emod], Int.emod_nonneg _ (by omega), Int.emod_lt_of_pos _ hk, rfl, rfl⟩
theorem div_mono {x y k : Int} (hk : 0 < k) (h : x ≤ y) : x / k ≤ y / k := Int.ediv_le_ediv hk h
theorem restE_ok {l h k x : Int} (hk : 1 ≤ k) (h1 : l ≤ x) (h2 : x ≤ h) : (restE l h k).1 ≤ x % k ∧ x % k ≤ (restE l h k).2 := by
  unfold restE
  split
  · rename_i e
    have a := div_mono (k := k) (by omega) h1
    have b := div_mono (k := k) (by omega) h2
    have ex : x / k = l / k := by omega
    show l % k ≤ x % k ∧ x % k ≤ h % k
    rw [Int.emod_def, Int.emod_def, Int.emod_def, ex, ← e]
    omega
  · have := Int.emod_nonneg x (show k ≠ 0 by omega)
    have := Int.emod_lt_of_pos x (show 0 < k by omega)
    show 0 ≤ x % k ∧ x % k ≤ k - 1
    omega
theorem remF_pos {x k : Int} (h : 0 ≤ x) : remF x k = x % k := by
  unfold remF quoM
  rw [if_neg (by omega), Int.emod_def]
theorem remF_neg {x k : Int} (h : x < 0) : remF x k = -(-x % k) := by
  unfold remF quoM
  rw [if_pos h, Int.emod_def, Int.mul_neg]
  omega
theorem remF_npos {x k : Int} (h : x ≤ 0) : remF x k = -(-x % k) := by
  rcases Int.lt_or_eq_of_le h with h | h
  · exact remF_neg h
  · subst h
    rw [remF_pos (by omega)]
    simp
theorem mx_ge (a b : Int) : a ≤ mx a b ∧ b ≤ mx a b := by unfold mx; split <;> omega
theorem mn_le (a b : Int) : mn a b ≤ a ∧ mn a b ≤ b := by unfold mn; split <;> omega
theorem mx_or (a b : Int) : mx a b = a ∨ mx a b = b := by unfold mx; split <;> simp
theorem mn_or (a b : Int) : mn a b = a ∨ mn a b = b := by unfold mn; split <;> simp
theorem remE_ok {l h k x : Int} (hk : 1 ≤ k) (h1 : l ≤ x) (h2 : x ≤ h) : (remE l h k).1 ≤ remF x k ∧ remF x k ≤ (remE l h k).2 := by
  have pos : 0 ≤ x → (posE l h k).1 ≤ remF x k ∧ remF x k ≤ (posE l h k).2 := fun hx => by
    rw [remF_pos hx]
    refine restE_ok hk ?_ h2
    unfold mx; split <;> omega
  have neg : x ≤ 0 → (negE l h k).1 ≤ remF x k ∧ remF x k ≤ (negE l h k).2 := fun hx => by
    rw [remF_npos hx]
    have a := restE_ok (l := mx (-h) 0) (h := -l) (x := -x) hk (by unfold mx; split <;> omega) (by omega)
    unfold negE
    show -_ ≤ _ ∧ _ ≤ -_
    omega
  unfold remE
  split
  · split
    · have a := mn_le (posE l h k).1 (negE l h k).1
      have b := mx_ge (posE l h k).2 (negE l h k).2
      show mn _ _ ≤ _ ∧ _ ≤ mx _ _
      by_cases hx : 0 ≤ x
      · have := pos hx; omega
      · have := neg (by omega); omega
    · exact pos (by omega)
  · exact neg (by omega)
theorem quo_mono {x y k : Int} (hk : 1 ≤ k) (h : x ≤ y) : quoM x k ≤ quoM y k := by
  unfold quoM
  split
  · split
    · have := div_mono (k := k) (x := -y) (y := -x) (by omega) (by omega); omega
    · have a := Int.ediv_nonneg (a := -x) (b := k) (by omega) (by omega)
      have b := Int.ediv_nonneg (a := y) (b := k) (by omega) (by omega)
      omega
  · split
    · omega
    · exact div_mono (by omega) h
def BOk (n : Nat) (b : Pr) : Prop := b.1 ≤ b.2 ∧ Sm n b.1 ∧ Sm n b.2
theorem BOk.mono {m n : Nat} {b : Pr} (h : BOk m b) (hm : m ≤ n) : BOk n b := ⟨h.1, h.2.1.mono hm, h.2.2.mono hm⟩
def upM (l k : Int) : Int := l + (0 - l) % k
def dnM (h k : Int) : Int := h - h % k
def smp (l h k : Int) : List Int := [l, h, 0, -1, 1, upM l k - 1, upM l k, upM l k + 1, dnM h k - 1, dnM h k, dnM h k + 1, upM l k + k - 1, upM l k + k, upM l k + k + 1, dnM h k - k - 1, dnM h k - k, dnM h k - k + 1]
theorem up_eq {l k q r : Int} (hk : 0 < k) (e : l = k * q + r) (h0 : 0 ≤ r) (h1 : r < k) : upM l k = if r = 0 then l else k * q + k := by
  unfold upM
  split
  · rename_i z
    have a := (eu (a := 0 - l) (k := k) (q := -q) (r := 0) hk (by rw [Int.mul_neg]; omega) (by omega) hk).2
    omega
  · have a := (eu (a := 0 - l) (k := k) (q := -q - 1) (r := k - r) hk (by rw [Int.mul_sub, Int.mul_neg]; omega) (by omega) (by omega)).2
    omega
theorem dn_eq {h k q r : Int} (hk : 0 < k) (e : h = k * q + r) (h0 : 0 ≤ r) (h1 : r < k) : dnM h k = k * q := by
  unfold dnM
  rw [(eu hk e h0 h1).2]; omega
def Att (f : Int → Int) (l h k v : Int) : Prop := ∃ x, x ∈ smp l h k ∧ l ≤ x ∧ x ≤ h ∧ f x = v
theorem gap {l h k q r q2 r2 : Int} (hk : 0 < k) (e : l = k * q + r) (h0 : 0 ≤ r) (h1 : r < k) (e2 : h = k * q2 + r2) (h3 : 0 ≤ r2) (h4 : r2 < k) (hl : l ≤ h) (hne : q ≠ q2) : k * q + k ≤ k * q2 := by
  have a := div_mono hk hl
  rw [(eu hk e h0 h1).1, (eu hk e2 h3 h4).1] at a
  have b : q + 1 ≤ q2 := by omega
  have c := Int.mul_le_mul_of_nonneg_left b (show 0 ≤ k by omega)
  rw [Int.mul_add, Int.mul_one] at c
  exact c
theorem rest_att {l h k : Int} (hk : 1 ≤ k) (hl : l ≤ h) : Att (· % k) l h k (restE l h k).1 ∧ Att (· % k) l h k (restE l h k).2 := by
  have hk' : 0 < k := by omega
  obtain ⟨q, r, e, h0, h1, eq, er⟩ := qr l hk'
  obtain ⟨q2, r2, e2, h3, h4, eq2, er2⟩ := qr h hk'
  unfold restE
  rw [eq, eq2]
  split
  · exact ⟨⟨l, by simp [smp], Int.le_refl _, hl, rfl⟩, ⟨h, by simp [smp], hl, Int.le_refl _, rfl⟩⟩
  · rename_i hne
    have g := gap hk' e h0 h1 e2 h3 h4 hl hne
    have u := up_eq hk' e h0 h1
    refine ⟨⟨upM l k, by simp [smp], ?_, ?_, ?_⟩, ?_⟩
    · rw [u]; split <;> omega
    · rw [u]; split <;> omega
    · rw [u]; split
      · rename_i z; subst z; exact (eu hk' (q := q) (r := 0) (by omega) (by omega) hk').2
      · exact (eu hk' (q := q + 1) (r := 0) (by rw [Int.mul_add]; omega) (by omega) hk').2
    · by_cases z : r = 0
      · refine ⟨upM l k + k - 1, by simp [smp], ?_, ?_, ?_⟩
        · rw [u, if_pos z]; omega
        · rw [u, if_pos z]; omega
        · rw [u, if_pos z]; exact (eu hk' (q := q) (r := k - 1) (by omega) (by omega) (by omega)).2
      · refine ⟨upM l k - 1, by simp [smp], ?_, ?_, ?_⟩
        · rw [u, if_neg z]; omega
        · rw [u, if_neg z]; omega
        · rw [u, if_neg z]; exact (eu hk' (q := q) (r := k - 1) (by omega) (by omega) (by omega)).2
theorem neg_emod {k q r : Int} (hk : 0 < k) (h0 : 0 ≤ r) (h1 : r < k) {x : Int} (e : -x = k * q + r) (hx : x ≤ 0) : remF x k = -r := by
  rw [remF_npos hx, (eu hk e h0 h1).2]
theorem posE_att {l h k : Int} (hk : 1 ≤ k) (hl : l ≤ h) (hh : 0 ≤ h) : Att (remF · k) l h k (posE l h k).1 ∧ Att (remF · k) l h k (posE l h k).2 := by
  have hk' : 0 < k := by omega
  by_cases h0 : 0 ≤ l
  · have em : mx l 0 = l := by unfold mx; split <;> omega
    unfold posE
    rw [em]
    obtain ⟨⟨x, m1, a1, b1, c1⟩, ⟨y, m2, a2, b2, c2⟩⟩ := rest_att hk hl
    exact ⟨⟨x, m1, a1, b1, by show remF x k = _; rw [remF_pos (by omega)]; exact c1⟩, ⟨y, m2, a2, b2, by show remF y k = _; rw [remF_pos (by omega)]; exact c2⟩⟩
  · have em : mx l 0 = 0 := by unfold mx; split <;> omega
    unfold posE
    rw [em]
    obtain ⟨q2, r2, e2, h3, h4, eq2, er2⟩ := qr h hk'
    unfold restE
    rw [Int.zero_ediv, eq2]
    split
    · exact ⟨⟨0, by simp [smp], by omega, by omega, by show remF 0 k = _; rw [remF_pos (by omega)]⟩, ⟨h, by simp [smp], hl, Int.le_refl _, by show remF h k = _; rw [remF_pos (by omega)]⟩⟩
    · rename_i hne
      have d := dn_eq hk' e2 h3 h4
      have g := gap (l := 0) (q := 0) (r := 0) hk' (by simp) (by omega) hk' e2 h3 h4 hh hne
      refine ⟨⟨0, by simp [smp], by omega, by omega, by show remF 0 k = 0; rw [remF_pos (by omega)]; simp⟩, ⟨dnM h k - 1, by simp [smp], ?_, ?_, ?_⟩⟩
      · rw [d]; omega
      · rw [d]; omega
      · show remF _ k = k - 1
        rw [d, remF_pos (by omega)]
        exact (eu hk' (q := q2 - 1) (r := k - 1) (by rw [Int.mul_sub]; omega) (by omega) (by omega)).2
theorem negE_att {l h k : Int} (hk : 1 ≤ k) (hl : l ≤ h) (hh : l < 0) : Att (remF · k) l h k (negE l h k).1 ∧ Att (remF · k) l h k (negE l h k).2 := by
  have hk' : 0 < k := by omega
  have hz := mx_ge (-h) 0
  have hzo := mx_or (-h) 0
  generalize ez : mx (-h) 0 = z at hz hzo
  have hzl : z ≤ -l := by omega
  obtain ⟨q, r, e, h0, h1, eq, er⟩ := qr z hk'
  obtain ⟨q2, r2, e2, h3, h4, eq2, er2⟩ := qr (-l) hk'
  -- the number nearest to 0
  have near : ∃ x, x ∈ smp l h k ∧ l ≤ x ∧ x ≤ h ∧ x = -z := by
    rcases hzo with c | c
    · exact ⟨h, by simp [smp], hl, Int.le_refl _, by omega⟩
    · exact ⟨0, by simp [smp], by omega, by omega, by omega⟩
  obtain ⟨x, mx1, xl, xh, ex⟩ := near
  have u : upM l k = -(k * q2) := by
    unfold upM
    rw [show (0 : Int) - l = -l by omega, er2]; omega
  unfold negE restE
  rw [ez, eq, eq2]
  split
  · refine ⟨⟨l, by simp [smp], Int.le_refl _, hl, ?_⟩, ⟨x, mx1, xl, xh, ?_⟩⟩
    · show remF l k = -(-l % k); exact remF_npos (by omega)
    · show remF x k = -(z % k)
      rw [remF_npos (by omega), ex, Int.neg_neg]
  · rename_i hne
    have g := gap hk' e h0 h1 e2 h3 h4 hzl hne
    refine ⟨?_, ⟨upM l k, by simp [smp], ?_, ?_, ?_⟩⟩
    · by_cases c : upM l k + 1 ≤ h
      · refine ⟨upM l k + 1, by simp [smp], ?_, c, ?_⟩
        · rw [u]; omega
        · show remF _ k = -(k - 1)
          rw [u]
          refine neg_emod hk' (q := q2 - 1) (by omega) (by omega) (by rw [Int.mul_sub]; omega) ?_
          have : k * q + k ≤ k * q2 := g
          have : 0 ≤ q := by
            rw [← eq]; exact Int.ediv_nonneg (by omega) (by omega)
          have : 0 ≤ k * q := Int.mul_nonneg (by omega) this
          omega
      · -- up is the high end itself, a multiple of k
        have hu : upM l k = h := by
          rw [u] at c ⊢
          have a : k * q ≤ z := by omega
          have : z ≤ k * q2 := by omega
          have hz2 : z = -h ∨ z = 0 := hzo
          have q0 : 0 ≤ k * q := Int.mul_nonneg (by omega) (by rw [← eq]; exact Int.ediv_nonneg (by omega) (by omega))
          omega
        have hz3 : z = k * q2 := by rw [u] at hu; omega
        exfalso
        have b := (eu (a := z) hk' (q := q2) (r := 0) (by omega) (by omega) hk').1
        omega
    · rw [u]; omega
    · rw [u]
      have q0 : 0 ≤ k * q := Int.mul_nonneg (by omega) (by rw [← eq]; exact Int.ediv_nonneg (by omega) (by omega))
      omega
    · show remF _ k = -0
      rw [u]
      refine neg_emod hk' (q := q2) (by omega) hk' (by omega) ?_
      have q0 : 0 ≤ k * q := Int.mul_nonneg (by omega) (by rw [← eq]; exact Int.ediv_nonneg (by omega) (by omega))
      omega
theorem rem_att {l h k : Int} (hk : 1 ≤ k) (hl : l ≤ h) : Att (remF · k) l h k (remE l h k).1 ∧ Att (remF · k) l h k (remE l h k).2 := by
  unfold remE
  split
  · split
    · have a := posE_att hk hl (by omega)
      have b := negE_att hk hl (by omega)
      refine ⟨?_, ?_⟩
      · rcases mn_or (posE l h k).1 (negE l h k).1 with e | e <;> simp only [e]
        · exact a.1
        · exact b.1
      · rcases mx_or (posE l h k).2 (negE l h k).2 with e | e <;> simp only [e]
        · exact a.2
        · exact b.2
    · exact posE_att hk hl (by omega)
  · exact negE_att hk hl (by omega)
inductive Dv4 where | floor | rest | quo | rem
def Dv4.row : Dv4 → Nat → Int → RowM
  | .floor, i, k => .floor i k | .rest, i, k => .rest i k | .quo, i, k => .quo i k | .rem, i, k => .rem i k
def Dv4.f (o : Dv4) (k x : Int) : Int := match o with
  | .floor => x / k | .rest => x % k | .quo => quoM x k | .rem => x - k * quoM x k
def Dv4.e (o : Dv4) (l h k : Int) : Pr := match o with
  | .floor => (l / k, h / k) | .rest => restE l h k | .quo => (quoM l k, quoM h k) | .rem => remE l h k
theorem Dv4.ok (o : Dv4) {l h k x : Int} (hk : 1 ≤ k) (h1 : l ≤ x) (h2 : x ≤ h) : (o.e l h k).1 ≤ o.f k x ∧ o.f k x ≤ (o.e l h k).2 := by
  cases o with
  | floor => exact ⟨div_mono (by omega) h1, div_mono (by omega) h2⟩
  | rest => exact restE_ok hk h1 h2
  | quo => exact ⟨quo_mono hk h1, quo_mono hk h2⟩
  | rem => exact remE_ok hk h1 h2
theorem Dv4.att (o : Dv4) {l h k : Int} (hk : 1 ≤ k) (hl : l ≤ h) : Att (o.f k) l h k (o.e l h k).1 ∧ Att (o.f k) l h k (o.e l h k).2 := by
  cases o with
  | floor => exact ⟨⟨l, by simp [smp], Int.le_refl _, hl, rfl⟩, ⟨h, by simp [smp], hl, Int.le_refl _, rfl⟩⟩
  | rest => exact rest_att hk hl
  | quo => exact ⟨⟨l, by simp [smp], Int.le_refl _, hl, rfl⟩, ⟨h, by simp [smp], hl, Int.le_refl _, rfl⟩⟩
  | rem => exact rem_att hk hl
theorem Dv4.least (o : Dv4) {l h k m : Int} (hk : 1 ≤ k) (hl : l ≤ h) {ns : List Int} (hn : ∀ y, y ∈ ns ↔ ∃ x ∈ smp l h k, l ≤ x ∧ x ≤ h ∧ o.f k x = y) (hm : m ∈ ns) (hle : ∀ y ∈ ns, m ≤ y) : m = (o.e l h k).1 := by
  obtain ⟨x, _, a, b, c⟩ := (hn m).mp hm
  have s := o.ok hk a b
  obtain ⟨y, my, ya, yb, yc⟩ := (o.att hk hl).1
  have t := hle _ ((hn _).mpr ⟨y, my, ya, yb, yc⟩)
  omega
theorem Dv4.greatest (o : Dv4) {l h k m : Int} (hk : 1 ≤ k) (hl : l ≤ h) {ns : List Int} (hn : ∀ y, y ∈ ns ↔ ∃ x ∈ smp l h k, l ≤ x ∧ x ≤ h ∧ o.f k x = y) (hm : m ∈ ns) (hle : ∀ y ∈ ns, y ≤ m) : m = (o.e l h k).2 := by
  obtain ⟨x, _, a, b, c⟩ := (hn m).mp hm
  have s := o.ok hk a b
  obtain ⟨y, my, ya, yb, yc⟩ := (o.att hk hl).2
  have t := hle _ ((hn _).mpr ⟨y, my, ya, yb, yc⟩)
  omega
def Dv4.nm : Dv4 → String
  | .floor => "floor" | .rest => "rest" | .quo => "quo" | .rem => "rem"
theorem sm_between {n : Nat} {l h x : Int} (sl : Sm n l) (sh : Sm n h) (h1 : l ≤ x) (h2 : x ≤ h) : Sm n x := sm_of (by have := sl.gt; omega) (by have := sh.lt; omega)
end Dl
namespace Dl
open PySem L2
structure Qs where
  t : Int
  p : Int
  o : Int
  L : Int
  s : Int
  w : Int
def Qs.f (q : Qs) (x : Int) : Int := q.s * x + q.w * ((q.t * x + q.p) / q.o)
structure Ans (q : Qs) (v x : Int) : Prop where
  x0 : 0 ≤ x
  xL : x ≤ q.L
  vf : v = q.f x
  le : ∀ y, 0 ≤ y → y ≤ q.L → q.f y ≤ v
def Qs.n (q : Qs) : Qs := ⟨q.t % q.o, q.p % q.o, q.o, q.L, q.s + q.w * (q.t / q.o), q.w⟩
def Qs.fx (q : Qs) : Int := q.w * (q.p / q.o)
def Qs.top (q : Qs) : Int := (q.t * q.L + q.p) / q.o
theorem floor_split {t p o x : Int} (ho : 0 < o) : (t * x + p) / o = t / o * x + p / o + (t % o * x + p % o) / o := by
  have e1 := Int.mul_ediv_add_emod t o
  have e2 := Int.mul_ediv_add_emod p o
  have e : t * x + p = (t % o * x + p % o) + o * (t / o * x + p / o) := by
    have a : t * x = (o * (t / o) + t % o) * x := by rw [e1]
    rw [a, Int.add_mul, Int.mul_add, Int.mul_assoc]
    omega
  rw [e, Int.add_mul_ediv_left _ _ (by omega)]; omega
theorem Qs.f_n {q : Qs} (ho : 0 < q.o) (x : Int) : q.f x = q.fx + q.n.f x := by
  show q.s * x + q.w * ((q.t * x + q.p) / q.o) = q.w * (q.p / q.o) + ((q.s + q.w * (q.t / q.o)) * x + q.w * ((q.t % q.o * x + q.p % q.o) / q.o))
  rw [floor_split ho, Int.mul_add, Int.mul_add, Int.add_mul, Int.mul_assoc]
  omega
theorem Ans.of_n {q : Qs} (ho : 0 < q.o) {v x : Int} (h : Ans q.n v x) : Ans q (q.fx + v) x :=
  ⟨h.x0, h.xL, by rw [Qs.f_n ho, h.vf], fun y y0 y1 => by rw [Qs.f_n ho]; have := h.le y y0 y1; omega⟩
structure Nm (q : Qs) : Prop where
  t0 : 0 ≤ q.t
  t1 : q.t < q.o
  p0 : 0 ≤ q.p
  p1 : q.p < q.o
  L0 : 0 ≤ q.L
theorem Qs.nm {q : Qs} (ho : 0 < q.o) (hL : 0 ≤ q.L) : Nm q.n :=
  ⟨Int.emod_nonneg _ (by omega), Int.emod_lt_of_pos _ ho, Int.emod_nonneg _ (by omega), Int.emod_lt_of_pos _ ho, hL⟩
section
variable {q : Qs} (N : Nm q)
include N
theorem Nm.o0 : 0 < q.o := by have := N.t0; have := N.t1; omega
theorem Nm.at0 : (q.t * 0 + q.p) / q.o = 0 := by
  rw [Int.mul_zero, Int.zero_add]
  exact Int.ediv_eq_zero_of_lt N.p0 N.p1
theorem Nm.mono {x y : Int} (h : x ≤ y) : (q.t * x + q.p) / q.o ≤ (q.t * y + q.p) / q.o := by
  refine Int.ediv_le_ediv N.o0 ?_
  have := Int.mul_le_mul_of_nonneg_left h N.t0
  omega
theorem Nm.f0 : q.f 0 = 0 := by
  unfold Qs.f
  rw [N.at0]; simp
theorem Nm.topL : q.top ≤ q.L := by
  unfold Qs.top
  have h1 : q.t * q.L ≤ (q.o - 1) * q.L := Int.mul_le_mul_of_nonneg_right (by have := N.t1; omega) N.L0
  rw [Int.sub_mul, Int.one_mul] at h1
  have h2 := N.p1
  have : q.t * q.L + q.p < q.o * (q.L + 1) := by rw [Int.mul_add, Int.mul_one]; have := N.L0; omega
  have := Int.ediv_lt_of_lt_mul N.o0 (by rw [Int.mul_comm q.o] at this; exact this)
  omega
theorem Nm.top0 : 0 ≤ q.top := by
  have := N.mono N.L0
  rw [N.at0] at this
  exact this
end
def Brk (q : Qs) : Prop := q.top = 0 ∨ q.w = 0 ∨ (0 ≤ q.s ∧ 0 < q.w) ∨ (q.s ≤ 0 ∧ q.w < 0)
def plM (q : Qs) : Int := if q.s > 0 ∨ (q.s = 0 ∧ q.w > 0) then q.L else 0
theorem brk_ans {q : Qs} (N : Nm q) (h : Brk q) : Ans q (q.f (plM q)) (plM q) := by
  have L0 := N.L0
  have fl0 : ∀ y, 0 ≤ y → 0 ≤ (q.t * y + q.p) / q.o := fun y hy => by have := N.mono hy; rw [N.at0] at this; exact this
  have flL : ∀ y, y ≤ q.L → (q.t * y + q.p) / q.o ≤ q.top := fun y hy => N.mono hy
  have key : ∀ y, 0 ≤ y → y ≤ q.L → q.f y ≤ q.f (plM q) := by
    intro y y0 y1
    have a := fl0 y y0
    have b := flL y y1
    have hz : q.top = 0 ∨ q.w = 0 → q.w * ((q.t * y + q.p) / q.o) = 0 := fun z => by
      rcases z with z | z
      · have : (q.t * y + q.p) / q.o = 0 := by omega
        rw [this, Int.mul_zero]
      · rw [z, Int.zero_mul]
    have hzp : q.top = 0 ∨ q.w = 0 → q.w * ((q.t * plM q + q.p) / q.o) = 0 := fun z => by
      have p0 : 0 ≤ plM q := by unfold plM; split <;> omega
      have p1 : plM q ≤ q.L := by unfold plM; split <;> omega
      have a := fl0 _ p0
      have b := flL _ p1
      rcases z with z | z
      · have : (q.t * plM q + q.p) / q.o = 0 := by omega
        rw [this, Int.mul_zero]
      · rw [z, Int.zero_mul]
    by_cases z : q.top = 0 ∨ q.w = 0
    · unfold Qs.f
      rw [hz z, hzp z]
      unfold plM
      split
      · rename_i c
        have : q.s * y ≤ q.s * q.L := Int.mul_le_mul_of_nonneg_left y1 (by omega)
        omega
      · rename_i c
        have : q.s * y ≤ 0 := Int.mul_nonpos_of_nonpos_of_nonneg (by omega) y0
        omega
    · have h : (0 ≤ q.s ∧ 0 < q.w) ∨ (q.s ≤ 0 ∧ q.w < 0) := by
        rcases h with h | h | h | h
        · exact absurd (.inl h) z
        · exact absurd (.inr h) z
        · exact .inl h
        · exact .inr h
      rcases h with ⟨h1, h2⟩ | ⟨h1, h2⟩
      · have : plM q = q.L := by unfold plM; rw [if_pos (by omega)]
        rw [this]
        unfold Qs.f
        have c := Int.mul_le_mul_of_nonneg_left y1 h1
        have d := Int.mul_le_mul_of_nonneg_left (N.mono y1) (show 0 ≤ q.w by omega)
        omega
      · have : plM q = 0 := by unfold plM; rw [if_neg (by omega)]
        rw [this, N.f0]
        unfold Qs.f
        have c := Int.mul_nonpos_of_nonpos_of_nonneg h1 y0
        have d := Int.mul_nonpos_of_nonpos_of_nonneg (show q.w ≤ 0 by omega) a
        omega
  exact ⟨by unfold plM; split <;> omega, by unfold plM; split <;> omega, rfl, key⟩
def lowQ (q : Qs) : Qs := if q.w > 0 then ⟨q.o, q.o - q.p + q.t - 1, q.t, q.top - 1, q.w, q.s⟩ else ⟨q.o, q.o - q.p - 1, q.t, q.top - 1, q.w, q.s⟩
def upX (q : Qs) (y : Int) : Int := (q.o * y + q.o - q.p + q.t - 1) / q.t
def dnX (q : Qs) (y : Int) : Int := (q.o * y + q.o - q.p - 1) / q.t
def raiM (q : Qs) (fx v y : Int) : Int × Int :=
  if q.w > 0 then (if v + q.w ≤ 0 then (fx, 0) else (fx + v + q.w, upX q y))
  else if q.s * q.L + q.w * q.top ≥ v then (fx + q.s * q.L + q.w * q.top, q.L) else (fx + v, dnX q y)
theorem t_pos {q : Qs} (N : Nm q) (h : q.top ≠ 0) : 0 < q.t := by
  rcases Int.lt_or_eq_of_le N.t0 with z | z
  · exact z
  · exfalso
    apply h
    unfold Qs.top
    rw [← z, Int.zero_mul, Int.zero_add]
    exact Int.ediv_eq_zero_of_lt N.p0 N.p1
theorem top_le {q : Qs} (N : Nm q) : q.o * q.top ≤ q.t * q.L + q.p := Int.mul_ediv_self_le (by have := N.o0; omega)
theorem step_pos {q : Qs} (N : Nm q) (ht : q.top ≠ 0) (hw : 0 < q.w) (hs : q.s < 0) {v y : Int} (A : Ans (lowQ q) v y) : Ans q (raiM q 0 v y).1 (raiM q 0 v y).2 := by
  have tp := t_pos N ht
  have op := N.o0
  have tl := top_le N
  have t0 := N.top0
  have eq : lowQ q = ⟨q.o, q.o - q.p + q.t - 1, q.t, q.top - 1, q.w, q.s⟩ := by unfold lowQ; rw [if_pos hw]
  rw [eq] at A
  have fq : ∀ z, (⟨q.o, q.o - q.p + q.t - 1, q.t, q.top - 1, q.w, q.s⟩ : Qs).f z = q.w * z + q.s * upX q z := fun z => by
    unfold Qs.f upX
    show q.w * z + q.s * ((q.o * z + (q.o - q.p + q.t - 1)) / q.t) = _
    rw [show q.o * z + (q.o - q.p + q.t - 1) = q.o * z + q.o - q.p + q.t - 1 by omega]
  -- facts of the jump
  have up : ∀ z, 0 ≤ z → z ≤ q.top - 1 → 0 ≤ upX q z ∧ upX q z ≤ q.L ∧ (q.t * upX q z + q.p) / q.o = z + 1 ∧ ∀ x, z + 1 ≤ (q.t * x + q.p) / q.o → upX q z ≤ x := by
    intro z z0 z1
    have oz : 0 ≤ q.o * z := Int.mul_nonneg (by omega) z0
    have p1 := N.p1
    have e := Int.mul_ediv_add_emod (q.o * z + q.o - q.p + q.t - 1) q.t
    have r0 := Int.emod_nonneg (q.o * z + q.o - q.p + q.t - 1) (show q.t ≠ 0 by omega)
    have r1 := Int.emod_lt_of_pos (q.o * z + q.o - q.p + q.t - 1) tp
    have hu : q.t * upX q z + (q.o * z + q.o - q.p + q.t - 1) % q.t = q.o * z + q.o - q.p + q.t - 1 := e
    have least : ∀ x, z + 1 ≤ (q.t * x + q.p) / q.o → upX q z ≤ x := by
      intro x hx
      have h1 : q.o * (z + 1) ≤ q.o * ((q.t * x + q.p) / q.o) := Int.mul_le_mul_of_nonneg_left hx (by omega)
      have h2 : q.o * ((q.t * x + q.p) / q.o) ≤ q.t * x + q.p := Int.mul_ediv_self_le (by omega)
      rw [Int.mul_add, Int.mul_one] at h1
      rcases Int.lt_or_le x (upX q z) with c | c
      · have : q.t * x ≤ q.t * (upX q z - 1) := Int.mul_le_mul_of_nonneg_left (by omega) (by omega)
        rw [Int.mul_sub, Int.mul_one] at this
        omega
      · exact c
    refine ⟨?_, ?_, ?_, least⟩
    · exact Int.ediv_nonneg (by omega) (by omega)
    · refine least q.L ?_
      show z + 1 ≤ q.top
      omega
    · have t1 := N.t1
      exact ((Int.ediv_emod_unique op (q := z + 1) (r := q.t * upX q z + q.p - q.o * (z + 1))).mpr ⟨by omega, by rw [Int.mul_add, Int.mul_one]; omega, by rw [Int.mul_add, Int.mul_one]; omega⟩).1
  have yu := up y A.x0 A.xL
  have vy : v = q.w * y + q.s * upX q y := by rw [A.vf, fq]
  have fy : q.f (upX q y) = v + q.w := by
    unfold Qs.f
    rw [yu.2.2.1, Int.mul_add, Int.mul_one, vy]; omega
  have all : ∀ x, 0 ≤ x → x ≤ q.L → q.f x ≤ 0 ∨ q.f x ≤ v + q.w := by
    intro x x0 x1
    have a := N.mono x0
    rw [N.at0] at a
    have b : (q.t * x + q.p) / q.o ≤ q.top := N.mono x1
    by_cases c : (q.t * x + q.p) / q.o = 0
    · left
      unfold Qs.f
      rw [c, Int.mul_zero]
      have := Int.mul_nonpos_of_nonpos_of_nonneg (show q.s ≤ 0 by omega) x0
      omega
    · right
      have hz := up ((q.t * x + q.p) / q.o - 1) (by omega) (by omega)
      have h1 := hz.2.2.2 x (by omega)
      have h2 := A.le ((q.t * x + q.p) / q.o - 1) (by omega) (by show _ ≤ q.top - 1; omega)
      rw [fq] at h2
      have h3 := Int.mul_le_mul_of_nonpos_left (show q.s ≤ 0 by omega) h1
      have h4 : q.w * ((q.t * x + q.p) / q.o - 1) = q.w * ((q.t * x + q.p) / q.o) - q.w := by rw [Int.mul_sub, Int.mul_one]
      unfold Qs.f
      omega
  unfold raiM
  rw [if_pos hw]
  split
  · rename_i c
    refine ⟨Int.le_refl _, N.L0, ?_, fun x x0 x1 => ?_⟩
    · show (0 : Int) = q.f 0; rw [N.f0]
    · show q.f x ≤ 0
      rcases all x x0 x1 with h | h <;> omega
  · rename_i c
    refine ⟨yu.1, yu.2.1, ?_, fun x x0 x1 => ?_⟩
    · show 0 + v + q.w = q.f (upX q y); rw [fy]; omega
    · show q.f x ≤ 0 + v + q.w
      rcases all x x0 x1 with h | h <;> omega
theorem step_neg {q : Qs} (N : Nm q) (ht : q.top ≠ 0) (hw : q.w < 0) (hs : 0 < q.s) {v y : Int} (A : Ans (lowQ q) v y) : Ans q (raiM q 0 v y).1 (raiM q 0 v y).2 := by
  have tp := t_pos N ht
  have op := N.o0
  have tl := top_le N
  have t0 := N.top0
  have eq : lowQ q = ⟨q.o, q.o - q.p - 1, q.t, q.top - 1, q.w, q.s⟩ := by unfold lowQ; rw [if_neg (by omega)]
  rw [eq] at A
  have fq : ∀ z, (⟨q.o, q.o - q.p - 1, q.t, q.top - 1, q.w, q.s⟩ : Qs).f z = q.w * z + q.s * dnX q z := fun z => by
    unfold Qs.f dnX
    show q.w * z + q.s * ((q.o * z + (q.o - q.p - 1)) / q.t) = _
    rw [show q.o * z + (q.o - q.p - 1) = q.o * z + q.o - q.p - 1 by omega]
  have dn : ∀ z, 0 ≤ z → z ≤ q.top - 1 → 0 ≤ dnX q z ∧ dnX q z ≤ q.L ∧ (q.t * dnX q z + q.p) / q.o = z ∧ ∀ x, (q.t * x + q.p) / q.o ≤ z → x ≤ dnX q z := by
    intro z z0 z1
    have oz : 0 ≤ q.o * z := Int.mul_nonneg (by omega) z0
    have p1 := N.p1
    have p0 := N.p0
    have t1 := N.t1
    have e := Int.mul_ediv_add_emod (q.o * z + q.o - q.p - 1) q.t
    have r0 := Int.emod_nonneg (q.o * z + q.o - q.p - 1) (show q.t ≠ 0 by omega)
    have r1 := Int.emod_lt_of_pos (q.o * z + q.o - q.p - 1) tp
    have hu : q.t * dnX q z + (q.o * z + q.o - q.p - 1) % q.t = q.o * z + q.o - q.p - 1 := e
    have most : ∀ x, (q.t * x + q.p) / q.o ≤ z → x ≤ dnX q z := by
      intro x hx
      have h2 : q.t * x + q.p < q.o * ((q.t * x + q.p) / q.o) + q.o := by
        have a := Int.mul_ediv_add_emod (q.t * x + q.p) q.o
        have b := Int.emod_lt_of_pos (q.t * x + q.p) op
        omega
      have h1 : q.o * ((q.t * x + q.p) / q.o) ≤ q.o * z := Int.mul_le_mul_of_nonneg_left hx (by omega)
      rcases Int.lt_or_le (dnX q z) x with c | c
      · have : q.t * (dnX q z + 1) ≤ q.t * x := Int.mul_le_mul_of_nonneg_left (by omega) (by omega)
        rw [Int.mul_add, Int.mul_one] at this
        omega
      · exact c
    refine ⟨Int.ediv_nonneg (by omega) (by omega), ?_, ?_, most⟩
    · rcases Int.lt_or_le q.L (dnX q z) with c | c
      · exfalso
        have h1 : q.t * q.L ≤ q.t * dnX q z := Int.mul_le_mul_of_nonneg_left (by omega) (by omega)
        have h2 : q.o * (z + 1) ≤ q.o * q.top := Int.mul_le_mul_of_nonneg_left (by omega) (by omega)
        rw [Int.mul_add, Int.mul_one] at h2
        omega
      · exact c
    · exact ((Int.ediv_emod_unique op (q := z) (r := q.t * dnX q z + q.p - q.o * z)).mpr ⟨by omega, by omega, by omega⟩).1
  have yu := dn y A.x0 A.xL
  have vy : v = q.w * y + q.s * dnX q y := by rw [A.vf, fq]
  have fy : q.f (dnX q y) = v := by
    unfold Qs.f
    rw [yu.2.2.1, vy]; omega
  have fL : q.f q.L = q.s * q.L + q.w * q.top := rfl
  have all : ∀ x, 0 ≤ x → x ≤ q.L → q.f x ≤ q.s * q.L + q.w * q.top ∨ q.f x ≤ v := by
    intro x x0 x1
    have a := N.mono x0
    rw [N.at0] at a
    have b : (q.t * x + q.p) / q.o ≤ q.top := N.mono x1
    by_cases c : (q.t * x + q.p) / q.o = q.top
    · left
      unfold Qs.f
      rw [c]
      have := Int.mul_le_mul_of_nonneg_left x1 (show 0 ≤ q.s by omega)
      omega
    · right
      have hz := dn ((q.t * x + q.p) / q.o) a (by omega)
      have h1 := hz.2.2.2 x (Int.le_refl _)
      have h2 := A.le ((q.t * x + q.p) / q.o) a (by show _ ≤ q.top - 1; omega)
      rw [fq] at h2
      have h3 := Int.mul_le_mul_of_nonneg_left h1 (show 0 ≤ q.s by omega)
      unfold Qs.f
      omega
  unfold raiM
  rw [if_neg (by omega)]
  split
  · rename_i c
    refine ⟨N.L0, Int.le_refl _, ?_, fun x x0 x1 => ?_⟩
    · show 0 + q.s * q.L + q.w * q.top = q.f q.L; rw [fL]; omega
    · show q.f x ≤ 0 + q.s * q.L + q.w * q.top
      rcases all x x0 x1 with h | h <;> omega
  · rename_i c
    refine ⟨yu.1, yu.2.1, ?_, fun x x0 x1 => ?_⟩
    · show 0 + v = q.f (dnX q y); rw [fy]; omega
    · show q.f x ≤ 0 + v
      rcases all x x0 x1 with h | h <;> omega
theorem rai_fx (q : Qs) (fx v y : Int) : raiM q fx v y = (fx + (raiM q 0 v y).1, (raiM q 0 v y).2) := by
  unfold raiM
  split
  · split
    · show (fx, 0) = (fx + 0, 0); rw [Int.add_zero]
    · refine Prod.ext ?_ rfl; show fx + v + q.w = fx + (0 + v + q.w); omega
  · split
    · refine Prod.ext ?_ rfl; show fx + q.s * q.L + q.w * q.top = fx + (0 + q.s * q.L + q.w * q.top); omega
    · refine Prod.ext ?_ rfl; show fx + v = fx + (0 + v); omega
theorem rai_ans {q : Qs} (ho : 0 < q.o) (hL : 0 ≤ q.L) (hb : ¬ Brk q.n) {v y : Int} (A : Ans (lowQ q.n) v y) : Ans q (raiM q.n q.fx v y).1 (raiM q.n q.fx v y).2 := by
  have N := q.nm ho hL
  rw [rai_fx]
  refine Ans.of_n ho ?_
  have ht : q.n.top ≠ 0 := fun z => hb (.inl z)
  have hw : q.n.w ≠ 0 := fun z => hb (.inr (.inl z))
  rcases Int.lt_or_lt_of_ne hw with h | h
  · exact step_neg N ht h (by rcases Int.lt_or_le 0 q.n.s with c | c; exact c; exact absurd (.inr (.inr (.inr ⟨c, h⟩))) hb) A
  · exact step_pos N ht h (by rcases Int.lt_or_le q.n.s 0 with c | c; exact c; exact absurd (.inr (.inr (.inl ⟨c, h⟩))) hb) A
structure QOk (q : Qs) : Prop where
  o0 : 0 < q.o
  L0 : 0 ≤ q.L
  st : Sm 3000 q.t
  sp : Sm 3001 q.p
  so : Sm 3000 q.o
  sL : Sm 3000 q.L
  ss : Sm 6001 q.s
  sw : Sm 6001 q.w
  sg : (Sm 3000 q.s ∧ Sm 3000 q.w) ∨ (0 ≤ q.t ∧ ((0 < q.w ∧ q.s < 0) ∨ (q.w < 0 ∧ 0 < q.s)))
theorem QOk.sn {q : Qs} (h : QOk q) : Sm 9002 q.n.s := by
  show Sm 9002 (q.s + q.w * (q.t / q.o))
  exact Sm.add (h.ss.mono (by decide)) ((h.sw.mul (h.st.div h.o0)).mono (by decide))
theorem between_sm {n : Nat} {a b : Int} (h : Sm n a) (h1 : (a ≤ b ∧ b ≤ 0) ∨ (0 ≤ b ∧ b ≤ a)) : Sm n b := by
  have u := h.lt
  have v := h.gt
  have : (0 : Int) < 2 ^ n := Int.pow_pos (by decide)
  exact sm_of (by omega) (by omega)
theorem QOk.low {q : Qs} (h : QOk q) (hb : ¬ Brk q.n) : QOk (lowQ q.n) ∧ (lowQ q.n).o < q.o := by
  have N := q.nm h.o0 h.L0
  have ht : q.n.top ≠ 0 := fun z => hb (.inl z)
  have hw : q.n.w ≠ 0 := fun z => hb (.inr (.inl z))
  have tp := t_pos N ht
  have t0 := N.top0
  have tL := N.topL
  have hsg : (0 < q.n.w ∧ q.n.s < 0) ∨ (q.n.w < 0 ∧ 0 < q.n.s) := by
    rcases Int.lt_or_lt_of_ne hw with c | c
    · exact .inr ⟨c, by rcases Int.lt_or_le 0 q.n.s with d | d; exact d; exact absurd (.inr (.inr (.inr ⟨d, c⟩))) hb⟩
    · exact .inl ⟨c, by rcases Int.lt_or_le q.n.s 0 with d | d; exact d; exact absurd (.inr (.inr (.inl ⟨d, c⟩))) hb⟩
  have ns : q.n.s = q.s + q.w * (q.t / q.o) := rfl
  have nw : q.n.w = q.w := rfl
  have ss : Sm 6001 q.n.s := by
    rcases h.sg with ⟨a, b⟩ | ⟨a, b⟩
    · rw [ns]
      exact Sm.add (a.mono (by decide)) ((b.mul (h.st.div h.o0)).mono (by decide))
    · have d := Int.ediv_nonneg a (Int.le_of_lt h.o0)
      refine between_sm h.ss ?_
      rw [ns, nw] at hsg
      rw [ns]
      rcases b with ⟨b1, b2⟩ | ⟨b1, b2⟩
      · have := Int.mul_nonneg (Int.le_of_lt b1) d
        omega
      · have := Int.mul_nonpos_of_nonpos_of_nonneg (Int.le_of_lt b1) d
        omega
  have sn : Sm 3000 q.n.t := h.so.le N.t0 (Int.le_of_lt N.t1)
  have pn := N.p0
  have pn1 := N.p1
  have tn1 := N.t1
  have on : q.n.o = q.o := rfl
  have Ln : q.n.L = q.L := rfl
  have so := h.so.lt
  have o0 := h.o0
  have e3 : (2 : Int) ^ 3001 = 2 ^ 3000 * 2 := Int.pow_succ _ _
  have sp : ∀ z : Int, 0 ≤ z → z < 2 * q.o → Sm 3001 z := fun z a b => sm_of (by omega) (by omega)
  have sL : Sm 3000 (q.n.top - 1) := h.sL.le (by omega) (by rw [← Ln]; omega)
  unfold lowQ
  rw [on] at pn1 tn1 ⊢
  split
  · rename_i c
    exact ⟨⟨tp, by show 0 ≤ q.n.top - 1; omega, h.so, sp (q.o - q.n.p + q.n.t - 1) (by omega) (by omega), sn, sL, h.sw, ss, .inr ⟨Int.le_of_lt h.o0, by show (0 < q.n.s ∧ q.n.w < 0) ∨ (q.n.s < 0 ∧ 0 < q.n.w); omega⟩⟩, tn1⟩
  · rename_i c
    exact ⟨⟨tp, by show 0 ≤ q.n.top - 1; omega, h.so, sp (q.o - q.n.p - 1) (by omega) (by omega), sn, sL, h.sw, ss, .inr ⟨Int.le_of_lt h.o0, by show (0 < q.n.s ∧ q.n.w < 0) ∨ (q.n.s < 0 ∧ 0 < q.n.w); omega⟩⟩, tn1⟩
inductive Pth (Q : Qs) : List Qs → Qs → Prop
  | nil : Pth Q [] Q
  | cons {es : List Qs} {q : Qs} : Pth Q es q → QOk q → ¬ Brk q.n → Pth Q (q :: es) (lowQ q.n)
def wyD (q : Qs) : D := .tup [.int q.n.t, .int q.n.p, .int q.n.o, .int q.n.top, .int q.n.s, .int q.n.w]
def peD (q : Qs) : D := .tup [.int q.fx, .int q.L, wyD q]
theorem cmp_pe (n : Nat) : ∀ es : List Qs, cmpL (n + 2) (es.map peD) = true
  | [] => by unfold cmpL; rfl
  | b :: bs => by
    show cmpL (n + 2) (peD b :: bs.map peD) = true
    unfold cmpL
    rw [cmp_pe n bs]
    simp [peD, wyD, cmpD, cmpL]
theorem low_t (q : Qs) : (lowQ q.n).t = q.o ∧ (lowQ q.n).o = q.t % q.o := by unfold lowQ; split <;> exact ⟨rfl, rfl⟩
theorem pth_prod {Q : Qs} : ∀ {es : List Qs} {q : Qs}, Pth Q es q → es ≠ [] → 0 < q.o ∧ q.o < q.t ∧ q.t * q.o * 2 ^ (es.length - 1) < 2 ^ 6000
  | _, _, .nil, h => absurd rfl h
  | _, _, .cons (es := es) (q := q) P ok hb, _ => by
    have l := ok.low hb
    rw [(low_t q).2] at l
    have o1 : 0 < q.t % q.o := by have := l.1.o0; rw [(low_t q).2] at this; exact this
    rw [(low_t q).1, (low_t q).2]
    refine ⟨o1, l.2, ?_⟩
    cases es with
    | nil =>
      show q.o * (q.t % q.o) * 2 ^ 0 < 2 ^ 6000
      have a := ok.so.lt
      have b : q.t % q.o < 2 ^ 3000 := by have := l.2; omega
      have e : (2 : Int) ^ 6000 = 2 ^ 3000 * 2 ^ 3000 := by rw [← Int.pow_add]
      rw [Int.pow_zero, Int.mul_one, e]
      exact Int.mul_lt_mul a (Int.le_of_lt b) o1 (Int.le_of_lt (Int.pow_pos (by decide)))
    | cons e es =>
      obtain ⟨p0, p1, p2⟩ := pth_prod P (by simp)
      have h2 : 2 * (q.t % q.o) ≤ q.t := by
        have a := Int.emod_lt_of_pos q.t p0
        have b : q.t % q.o ≤ q.t - q.o := by
          have e := Int.mul_ediv_add_emod q.t q.o
          have d : 1 ≤ q.t / q.o := Int.le_ediv_of_mul_le p0 (by omega)
          have := Int.mul_le_mul_of_nonneg_left d (Int.le_of_lt p0)
          omega
        omega
      have h3 : q.o * (q.t % q.o) * 2 ≤ q.t * q.o := by
        have := Int.mul_le_mul_of_nonneg_left h2 (Int.le_of_lt p0)
        have e1 : q.o * (2 * (q.t % q.o)) = q.o * (q.t % q.o) * 2 := by rw [Int.mul_left_comm, Int.mul_comm]
        have e2 : q.o * q.t = q.t * q.o := Int.mul_comm _ _
        omega
      have e4 : (2 : Int) ^ ((q :: e :: es).length - 1) = 2 * 2 ^ ((e :: es).length - 1) := by
        show (2 : Int) ^ (es.length + 1) = 2 * 2 ^ es.length
        rw [Int.pow_succ, Int.mul_comm]
      rw [e4, ← Int.mul_assoc]
      refine Int.lt_of_le_of_lt (Int.mul_le_mul_of_nonneg_right h3 (Int.le_of_lt (Int.pow_pos (by decide)))) p2
theorem pth_len {Q : Qs} {es : List Qs} {q : Qs} (h : Pth Q es q) : es.length ≤ 6001 := by
  cases es with
  | nil => simp
  | cons e es =>
    obtain ⟨a, b, c⟩ := pth_prod h (by simp)
    have h1 : 1 ≤ q.t * q.o := by
      have := Int.mul_le_mul (show 1 ≤ q.t by omega) (show 1 ≤ q.o by omega) (by omega) (by omega)
      omega
    have h2 : (2 : Int) ^ ((e :: es).length - 1) ≤ q.t * q.o * 2 ^ ((e :: es).length - 1) := by
      have := Int.mul_le_mul_of_nonneg_right h1 (Int.le_of_lt (show (0 : Int) < 2 ^ ((e :: es).length - 1) from Int.pow_pos (by decide)))
      rw [Int.one_mul] at this
      exact this
    have h3 : (2 : Int) ^ ((e :: es).length - 1) < 2 ^ 6000 := Int.lt_of_le_of_lt h2 c
    have h4 : (e :: es).length - 1 < 6000 := by
      rcases Nat.lt_or_ge ((e :: es).length - 1) 6000 with z | z
      · exact z
      · have := pow_le z
        omega
    omega
theorem rev_snoc {es : List Qs} {q : Qs} : (es.reverse.map peD) ++ [peD q] = (q :: es).reverse.map peD := by simp
end Dl
namespace Dl
open PySem L2
def mxR (g : Int → Int) (l : Int) : Nat → Int
  | 0 => g l
  | k + 1 => mx (mxR g l k) (g (l + (k + 1 : Nat)))
def maxI (g : Int → Int) (l h : Int) : Int := mxR g l (h - l).toNat
structure IsMax (g : Int → Int) (l h v : Int) : Prop where
  ex : ∃ n, l ≤ n ∧ n ≤ h ∧ g n = v
  le : ∀ n, l ≤ n → n ≤ h → g n ≤ v
theorem mxR_ok (g : Int → Int) (l : Int) : ∀ k : Nat, IsMax g l (l + k) (mxR g l k)
  | 0 => ⟨⟨l, Int.le_refl _, by omega, rfl⟩, fun n a b => by
      have : n = l := by omega
      subst this; exact Int.le_refl _⟩
  | k + 1 => by
    have ih := mxR_ok g l k
    have a := mx_ge (mxR g l k) (g (l + (k + 1 : Nat)))
    refine ⟨?_, fun n n1 n2 => ?_⟩
    · rcases mx_or (mxR g l k) (g (l + (k + 1 : Nat))) with e | e
      · obtain ⟨n, n1, n2, e2⟩ := ih.ex
        exact ⟨n, n1, by omega, by show g n = mx _ _; rw [e, e2]⟩
      · exact ⟨l + (k + 1 : Nat), by omega, Int.le_refl _, e.symm⟩
    · show g n ≤ mx _ _
      by_cases c : n ≤ l + k
      · have := ih.le n n1 c; omega
      · have : n = l + (k + 1 : Nat) := by omega
        subst this; omega
theorem maxI_ok {g : Int → Int} {l h : Int} (hl : l ≤ h) : IsMax g l h (maxI g l h) := by
  have := mxR_ok g l (h - l).toNat
  rw [show l + ((h - l).toNat : Nat) = h by omega] at this
  exact this
theorem IsMax.eq {g : Int → Int} {l h v : Int} (hl : l ≤ h) (m : IsMax g l h v) : v = maxI g l h := by
  have a := maxI_ok (g := g) hl
  obtain ⟨n, n1, n2, e⟩ := m.ex
  obtain ⟨k, k1, k2, e2⟩ := a.ex
  have := m.le k k1 k2
  have := a.le n n1 n2
  omega
structure IsArg (g : Int → Int) (l h : Int) (late : Bool) (n : Int) : Prop where
  l0 : l ≤ n
  h0 : n ≤ h
  le : ∀ m, l ≤ m → m ≤ h → g m ≤ g n
  tie : ∀ m, l ≤ m → m ≤ h → g m = g n → if late then m ≤ n else n ≤ m
theorem IsArg.uniq {g : Int → Int} {l h : Int} {b : Bool} {m n : Int} (a : IsArg g l h b m) (c : IsArg g l h b n) : m = n := by
  have e : g m = g n := by
    have := a.le n c.l0 c.h0
    have := c.le m a.l0 a.h0
    omega
  have t1 := a.tie n c.l0 c.h0 e.symm
  have t2 := c.tie m a.l0 a.h0 e
  cases b
  · simp at t1 t2; omega
  · simp at t1 t2; omega
theorem IsArg.val {g : Int → Int} {l h : Int} {b : Bool} {n : Int} (a : IsArg g l h b n) : g n = maxI g l h := IsMax.eq (Int.le_trans a.l0 a.h0) ⟨⟨n, a.l0, a.h0, rfl⟩, a.le⟩
theorem vl_shift (x : Tr) (l n : Int) : (x.1 * n + (x.1 * l + x.2.1)) / x.2.2 = vl x (l + n) := by
  show _ = (x.1 * (l + n) + x.2.1) / x.2.2
  congr 1
  rw [Int.mul_add]; omega
def gq (x : Tr) (s w n : Int) : Int := s * n + w * vl x n
def qOf (x : Tr) (l h s w : Int) : Qs := ⟨x.1, x.1 * l + x.2.1, x.2.2, h - l, s, w⟩
theorem qOf_f (x : Tr) (l h s w y : Int) : (qOf x l h s w).f y = s * y + w * vl x (l + y) := by
  show s * y + w * ((x.1 * y + (x.1 * l + x.2.1)) / x.2.2) = _
  rw [vl_shift]
theorem high_of {x : Tr} {l h s w v y : Int} (A : Ans (qOf x l h s w) v y) : IsMax (gq x s w) l h (v + s * l) := by
  have x0 := A.x0
  have xL : y ≤ h - l := A.xL
  have e := A.vf
  rw [qOf_f] at e
  refine ⟨⟨l + y, by omega, by omega, ?_⟩, fun n n1 n2 => ?_⟩
  · unfold gq; rw [e, Int.mul_add]; omega
  · have := A.le (n - l) (by omega) (by show n - l ≤ h - l; omega)
    rw [qOf_f, show l + (n - l) = n by omega, Int.mul_sub] at this
    unfold gq
    omega
theorem place_of_ok {x : Tr} {l h s w v y : Int} (late : Bool) (hl : l ≤ h) (A : Ans (qOf x l h (s * (h - l + 1) + (if late then 1 else -1)) (w * (h - l + 1))) v y) : IsArg (gq x s w) l h late (l + y) := by
  have x0 := A.x0
  have xL : y ≤ h - l := A.xL
  have e := A.vf
  rw [qOf_f] at e
  have key : ∀ m, l ≤ m → m ≤ h → (gq x s w m - gq x s w (l + y)) * (h - l + 1) ≤ (if late then 1 else -1) * (y - (m - l)) := by
    intro m m1 m2
    have a := A.le (m - l) (by omega) (by show m - l ≤ h - l; omega)
    rw [qOf_f, show l + (m - l) = m by omega, e] at a
    unfold gq
    have e1 : (s * m + w * vl x m - (s * (l + y) + w * vl x (l + y))) * (h - l + 1) = s * (h - l + 1) * (m - l) + w * (h - l + 1) * vl x m - (s * (h - l + 1) * y + w * (h - l + 1) * vl x (l + y)) := by
      generalize h - l + 1 = k
      generalize vl x m = a
      generalize vl x (l + y) = b
      have : s * m + w * a - (s * (l + y) + w * b) = s * (m - l) + w * a - (s * y + w * b) := by
        rw [Int.mul_add, Int.mul_sub]; omega
      rw [this, Int.sub_mul, Int.add_mul, Int.add_mul]
      have c1 : s * (m - l) * k = s * k * (m - l) := Int.mul_right_comm _ _ _
      have c2 : w * a * k = w * k * a := Int.mul_right_comm _ _ _
      have c3 : s * y * k = s * k * y := Int.mul_right_comm _ _ _
      have c4 : w * b * k = w * k * b := Int.mul_right_comm _ _ _
      omega
    rw [e1]
    rw [Int.add_mul, Int.add_mul] at a
    have e2 : (if late = true then (1 : Int) else -1) * (y - (m - l)) = (if late then 1 else -1) * y - (if late then 1 else -1) * (m - l) := Int.mul_sub _ _ _
    omega
  have kp : 0 < h - l + 1 := by omega
  have le : ∀ m, l ≤ m → m ≤ h → gq x s w m ≤ gq x s w (l + y) := by
    intro m m1 m2
    have k := key m m1 m2
    rcases Int.lt_or_le (gq x s w (l + y)) (gq x s w m) with c | c
    · have : 1 * (h - l + 1) ≤ (gq x s w m - gq x s w (l + y)) * (h - l + 1) := Int.mul_le_mul_of_nonneg_right (by omega) (by omega)
      cases late
      · simp only [Bool.false_eq_true, if_false] at k; omega
      · simp only [if_true] at k; omega
    · exact c
  refine ⟨by omega, by omega, le, fun m m1 m2 em => ?_⟩
  have k := key m m1 m2
  rw [em, Int.sub_self, Int.zero_mul] at k
  cases late
  · simp only [Bool.false_eq_true, if_false] at k ⊢; omega
  · simp only [if_true] at k ⊢; omega
def Agr (x y : Tr) (l h : Int) : Prop := ∀ n, l ≤ n → n ≤ h → vl x n = vl y n
theorem vl_iff {y : Tr} {n v : Int} (ho : 1 ≤ y.2.2) : vl y n = v ↔ y.2.2 * v - y.1 * n ≤ y.2.1 ∧ y.2.1 < y.2.2 * v - y.1 * n + y.2.2 := by
  show (y.1 * n + y.2.1) / y.2.2 = v ↔ _
  constructor
  · intro h
    have a := Int.mul_ediv_add_emod (y.1 * n + y.2.1) y.2.2
    have b := Int.emod_nonneg (y.1 * n + y.2.1) (show y.2.2 ≠ 0 by omega)
    have c := Int.emod_lt_of_pos (y.1 * n + y.2.1) (show 0 < y.2.2 by omega)
    rw [h] at a
    omega
  · intro ⟨h1, h2⟩
    exact ((Int.ediv_emod_unique (show 0 < y.2.2 by omega) (r := y.1 * n + y.2.1 - y.2.2 * v)).mpr ⟨by omega, by omega, by omega⟩).1
def loW (x : Tr) (l h u v : Int) : Int := maxI (gq x (-u) v) l h
def hiW (x : Tr) (l h u v : Int) : Int := maxI (gq x u (-v)) l h
theorem loW_ok {x : Tr} {l h u v : Int} (hl : l ≤ h) : (∃ n, l ≤ n ∧ n ≤ h ∧ v * vl x n - u * n = loW x l h u v) ∧ ∀ n, l ≤ n → n ≤ h → v * vl x n - u * n ≤ loW x l h u v := by
  have m := maxI_ok (g := gq x (-u) v) hl
  have e : ∀ n, gq x (-u) v n = v * vl x n - u * n := fun n => by unfold gq; rw [Int.neg_mul]; omega
  refine ⟨?_, fun n a b => by have := m.le n a b; rw [e] at this; exact this⟩
  obtain ⟨n, a, b, c⟩ := m.ex
  exact ⟨n, a, b, by rw [← e]; exact c⟩
theorem hiW_ok {x : Tr} {l h u v : Int} (hl : l ≤ h) : (∃ n, l ≤ n ∧ n ≤ h ∧ u * n - v * vl x n = hiW x l h u v) ∧ ∀ n, l ≤ n → n ≤ h → u * n - v * vl x n ≤ hiW x l h u v := by
  have m := maxI_ok (g := gq x u (-v)) hl
  have e : ∀ n, gq x u (-v) n = u * n - v * vl x n := fun n => by unfold gq; rw [Int.neg_mul]; omega
  refine ⟨?_, fun n a b => by have := m.le n a b; rw [e] at this; exact this⟩
  obtain ⟨n, a, b, c⟩ := m.ex
  exact ⟨n, a, b, by rw [← e]; exact c⟩
theorem agr_iff {x y : Tr} {l h : Int} (hl : l ≤ h) (ho : 1 ≤ y.2.2) : Agr x y l h ↔ loW x l h y.1 y.2.2 ≤ y.2.1 ∧ y.2.1 < y.2.2 - hiW x l h y.1 y.2.2 := by
  obtain ⟨⟨a, a1, a2, ea⟩, la⟩ := loW_ok (x := x) (u := y.1) (v := y.2.2) hl
  obtain ⟨⟨b, b1, b2, eb⟩, lb⟩ := hiW_ok (x := x) (u := y.1) (v := y.2.2) hl
  constructor
  · intro h
    have h1 := (vl_iff ho).mp (h a a1 a2).symm
    have h2 := (vl_iff ho).mp (h b b1 b2).symm
    omega
  · intro ⟨h1, h2⟩ n n1 n2
    have k1 := la n n1 n2
    have k2 := lb n n1 n2
    exact ((vl_iff ho).mpr ⟨by omega, by omega⟩).symm
theorem Agr.symm {x y : Tr} {l h : Int} (a : Agr x y l h) : Agr y x l h := fun n h1 h2 => (a n h1 h2).symm
theorem Agr.trans {x y z : Tr} {l h : Int} (a : Agr x y l h) (b : Agr y z l h) : Agr x z l h := fun n h1 h2 => (a n h1 h2).trans (b n h1 h2)
theorem Agr.refl (x : Tr) (l h : Int) : Agr x x l h := fun _ _ _ => rfl
theorem Agr.sub {x y : Tr} {l h a b : Int} (g : Agr x y l h) (h1 : l ≤ a) (h2 : b ≤ h) : Agr x y a b := fun n n1 n2 => g n (by omega) (by omega)
def Slp (f : Int → Int) (l h u v : Int) : Prop := ∀ a b, l ≤ a → a ≤ h → l ≤ b → b ≤ h → v * (f b - f a - 1) < u * (b - a)
theorem slp_self {x : Tr} {l h : Int} (ho : 1 ≤ x.2.2) : Slp (vl x) l h x.1 x.2.2 := by
  intro a b _ _ _ _
  have h1 := (vl_iff (y := x) (n := a) ho).mp rfl
  have h2 := (vl_iff (y := x) (n := b) ho).mp rfl
  rw [Int.mul_sub, Int.mul_sub, Int.mul_one, Int.mul_sub]
  omega
theorem slp_room {x : Tr} {l h u v : Int} (hl : l ≤ h) (s : Slp (vl x) l h u v) : loW x l h u v < v - hiW x l h u v := by
  obtain ⟨⟨a, a1, a2, ea⟩, _⟩ := loW_ok (x := x) (u := u) (v := v) hl
  obtain ⟨⟨b, b1, b2, eb⟩, _⟩ := hiW_ok (x := x) (u := u) (v := v) hl
  have := s b a b1 b2 a1 a2
  rw [Int.mul_sub, Int.mul_sub, Int.mul_one, Int.mul_sub] at this
  omega
theorem room_slp {x : Tr} {l h u v : Int} (hl : l ≤ h) (r : loW x l h u v < v - hiW x l h u v) : Slp (vl x) l h u v := by
  intro a b a1 a2 b1 b2
  have k1 := (loW_ok (x := x) (u := u) (v := v) hl).2 b b1 b2
  have k2 := (hiW_ok (x := x) (u := u) (v := v) hl).2 a a1 a2
  rw [Int.mul_sub, Int.mul_sub, Int.mul_one, Int.mul_sub]
  omega
theorem agr_of_slp {x : Tr} {l h u v w : Int} (hl : l ≤ h) (hv : 1 ≤ v) : Agr x (u, w, v) l h ↔ loW x l h u v ≤ w ∧ w < v - hiW x l h u v := agr_iff (y := (u, w, v)) hl hv
structure LowS (f : Int → Int) (l h p q : Int) : Prop where
  q1 : 1 ≤ q
  cop : gcdI p q = 1
  ex : ∃ a b, l ≤ a ∧ a < b ∧ b ≤ h ∧ p * (b - a) = q * (f b - f a - 1)
  le : ∀ a b, l ≤ a → a < b → b ≤ h → q * (f b - f a - 1) ≤ p * (b - a)
end Dl
namespace Dl
open PySem L2
theorem cop_dvd {p q r : Int} (h : gcdI p q = 1) (hd : q ∣ p * r) : q ∣ r := by
  have h1 : q.natAbs ∣ p.natAbs * r.natAbs := by
    have := Int.natAbs_dvd_natAbs.mpr hd
    rw [Int.natAbs_mul] at this
    exact this
  have hc : Nat.Coprime q.natAbs p.natAbs := by
    unfold gcdI at h
    have : Nat.gcd p.natAbs q.natAbs = 1 := by omega
    rw [Nat.gcd_comm] at this
    exact this
  exact Int.natAbs_dvd_natAbs.mp (hc.dvd_of_dvd_mul_left h1)
theorem cop_eq {p q p' q' : Int} (h1 : gcdI p q = 1) (h2 : gcdI p' q' = 1) (q1 : 1 ≤ q) (q2 : 1 ≤ q') (e : p * q' = p' * q) : p = p' ∧ q = q' := by
  have a : q ∣ q' := cop_dvd h1 ⟨p', by rw [e, Int.mul_comm]⟩
  have b : q' ∣ q := cop_dvd h2 ⟨p, by rw [← e, Int.mul_comm]⟩
  have c := Int.le_of_dvd (by omega) a
  have d := Int.le_of_dvd (by omega) b
  have e2 : q = q' := by omega
  subst e2
  exact ⟨Int.eq_of_mul_eq_mul_right (by omega) e, rfl⟩
def fr (p q : Int) : Int × Int := (p / gcdI p q, q / gcdI p q)
theorem fr_ok {p q : Int} (hq : 1 ≤ q) : ∃ g, 0 < g ∧ p = g * (fr p q).1 ∧ q = g * (fr p q).2 ∧ 1 ≤ (fr p q).2 ∧ gcdI (fr p q).1 (fr p q).2 = 1 := by
  obtain ⟨g, g0, e1, _, e3, e4⟩ := nrm_of (t := p) (p := 0) hq
  exact ⟨g, g0, e1, e3, e4, nrm_coprime (t := p) (p := 0) hq⟩
theorem fr_cross {p q : Int} (hq : 1 ≤ q) : (fr p q).1 * q = p * (fr p q).2 := by
  obtain ⟨g, g0, e1, e2, _, _⟩ := fr_ok (p := p) hq
  have a : (fr p q).1 * q = (fr p q).1 * (g * (fr p q).2) := by rw [← e2]
  have b : p * (fr p q).2 = g * (fr p q).1 * (fr p q).2 := by rw [← e1]
  rw [a, b, Int.mul_left_comm, Int.mul_assoc]
theorem fr_le {p q : Int} (hq : 1 ≤ q) : (fr p q).2 ≤ q := by
  have := gcdI_pos (a := p) hq
  exact Int.ediv_le_self _ (by omega)
theorem LowS.uniq {f : Int → Int} {l h p q p' q' : Int} (a : LowS f l h p q) (b : LowS f l h p' q') : p = p' ∧ q = q' := by
  obtain ⟨c, d, c1, cd, d1, e⟩ := a.ex
  obtain ⟨c', d', c1', cd', d1', e'⟩ := b.ex
  have h1 := b.le c d c1 cd d1
  have h2 := a.le c' d' c1' cd' d1'
  have q1 := a.q1
  have q2 := b.q1
  refine cop_eq a.cop b.cop q1 q2 ?_
  -- p q' ≤ p' q and back
  have k1 : p * q' ≤ p' * q := by
    have a1 : q' * (p * (d - c)) ≤ q * (p' * (d - c)) := by
      rw [e, Int.mul_left_comm]
      exact Int.mul_le_mul_of_nonneg_left h1 (by omega)
    have a2 : p * q' * (d - c) ≤ p' * q * (d - c) := by
      have x1 : p * q' * (d - c) = q' * (p * (d - c)) := by rw [Int.mul_comm p q', Int.mul_assoc]
      have x2 : p' * q * (d - c) = q * (p' * (d - c)) := by rw [Int.mul_comm p' q, Int.mul_assoc]
      rw [x1, x2]; exact a1
    exact Int.le_of_mul_le_mul_right a2 (by omega)
  have k2 : p' * q ≤ p * q' := by
    have a1 : q * (p' * (d' - c')) ≤ q' * (p * (d' - c')) := by
      rw [e', Int.mul_left_comm]
      exact Int.mul_le_mul_of_nonneg_left h2 (by omega)
    have a2 : p' * q * (d' - c') ≤ p * q' * (d' - c') := by
      have x1 : p' * q * (d' - c') = q * (p' * (d' - c')) := by rw [Int.mul_comm p' q, Int.mul_assoc]
      have x2 : p * q' * (d' - c') = q' * (p * (d' - c')) := by rw [Int.mul_comm p q', Int.mul_assoc]
      rw [x1, x2]; exact a1
    exact Int.le_of_mul_le_mul_right a2 (by omega)
  omega
def fct : Nat → Nat
  | 0 => 1
  | n + 1 => (n + 1) * fct n
theorem fct_dvd : ∀ {n k : Nat}, 1 ≤ k → k ≤ n → k ∣ fct n
  | 0, k, h1, h2 => by omega
  | n + 1, k, h1, h2 => by
    by_cases c : k = n + 1
    · subst c; exact ⟨fct n, rfl⟩
    · obtain ⟨m, e⟩ := fct_dvd (n := n) h1 (by omega)
      exact ⟨(n + 1) * m, by show (n + 1) * fct n = _; rw [e, Nat.mul_left_comm]⟩
theorem fct_pos : ∀ n, 0 < fct n
  | 0 => by decide
  | n + 1 => Nat.mul_pos (Nat.succ_pos n) (fct_pos n)
structure LowP (f : Int → Int) (l h p q : Int) : Prop where
  q1 : 1 ≤ q
  cop : gcdI p q = 1
  qN : q ≤ h - l
  ex : ∃ a b, l ≤ a ∧ a < b ∧ b ≤ h ∧ p * (b - a) = q * (f b - f a - 1)
theorem LowP.lt {f : Int → Int} {l h p q u v : Int} (P : LowP f l h p q) (s : Slp f l h u v) : p * v < u * q := by
  obtain ⟨a, b, a1, ab, b1, e⟩ := P.ex
  have h1 := s a b a1 (by omega) (by omega) b1
  have q1 := P.q1
  have h2 : q * (v * (f b - f a - 1)) < q * (u * (b - a)) := Int.mul_lt_mul_of_pos_left h1 (by omega)
  have h3 : p * v * (b - a) < u * q * (b - a) := by
    have x1 : p * v * (b - a) = q * (v * (f b - f a - 1)) := by
      rw [Int.mul_right_comm, e, Int.mul_assoc, Int.mul_comm _ v]
    have x2 : u * q * (b - a) = q * (u * (b - a)) := by rw [Int.mul_comm u q, Int.mul_assoc]
    rw [x1, x2]; exact h2
  exact Int.lt_of_mul_lt_mul_right h3 (by omega)
def lowM (N : Nat) (u v p q : Int) : Nat := (u * fct N - v * (p * (fct N / q))).toNat
theorem lowM_lt {N : Nat} {u v p q p' q' : Int} (hv : 1 ≤ v) (q1 : 1 ≤ q) (qN : q ≤ N) (q1' : 1 ≤ q') (qN' : q' ≤ N) (up : p * q' < p' * q) (lt : p' * v < u * q') : lowM N u v p' q' < lowM N u v p q := by
  have dv : ∀ z : Int, 1 ≤ z → z ≤ N → ∃ m : Int, (fct N : Int) = z * m ∧ 0 < m ∧ (fct N : Int) / z = m := by
    intro z z1 z2
    obtain ⟨m, e⟩ := fct_dvd (n := N) (k := z.toNat) (by omega) (by omega)
    have ez : (z.toNat : Int) = z := by omega
    have e2 : (fct N : Int) = z * m := by rw [e, Int.natCast_mul, ez]
    have fp := fct_pos N
    have m0 : 0 < (m : Int) := by
      rcases Nat.eq_zero_or_pos m with c | c
      · rw [c, Nat.mul_zero] at e; omega
      · omega
    exact ⟨m, e2, m0, by rw [e2]; exact Int.mul_ediv_cancel_left _ (by omega)⟩
  obtain ⟨m, e, m0, d⟩ := dv q q1 qN
  obtain ⟨m', e', m0', d'⟩ := dv q' q1' qN'
  unfold lowM
  rw [d, d']
  -- p m < p' m' : times q q'
  have h1 : p * m < p' * m' := by
    have a : p * q' * (m * m') < p' * q * (m * m') := Int.mul_lt_mul_of_pos_right up (Int.mul_pos m0 m0')
    have F0 : 0 < (fct N : Int) := by have := fct_pos N; omega
    have b : p * m * (fct N : Int) < p' * m' * (fct N : Int) := by
      have x1 : p * m * (fct N : Int) = p * q' * (m * m') := by rw [e', Int.mul_assoc, Int.mul_assoc]; congr 1; rw [Int.mul_left_comm]
      have x2 : p' * m' * (fct N : Int) = p' * q * (m * m') := by rw [e, Int.mul_assoc, Int.mul_assoc]; congr 1; rw [Int.mul_left_comm, Int.mul_comm m m']
      rw [x1, x2]; exact a
    exact Int.lt_of_mul_lt_mul_right b (by omega)
  have h2 : v * (p * m) < v * (p' * m') := Int.mul_lt_mul_of_pos_left h1 (by omega)
  have h3 : v * (p' * m') < u * fct N := by
    rw [e']
    have a : p' * v * m' < u * q' * m' := Int.mul_lt_mul_of_pos_right lt m0'
    have x1 : v * (p' * m') = p' * v * m' := by rw [← Int.mul_assoc, Int.mul_comm v p']
    have x2 : u * (q' * m') = u * q' * m' := by rw [Int.mul_assoc]
    rw [x1, x2]; exact a
  omega
theorem low_done {x : Tr} {l h p q a b : Int} (P : LowP (vl x) l h p q) (A : IsArg (gq x (-p) q) l h false b) (B : IsArg (gq x p (-q)) l h false a) (c : q * (vl x b - vl x a - 1) ≤ p * (b - a)) : LowS (vl x) l h p q := by
  refine ⟨P.q1, P.cop, P.ex, fun m n m1 mn n1 => ?_⟩
  have h1 := A.le n (by omega) n1
  have h2 := B.le m m1 (by omega)
  unfold gq at h1 h2
  rw [Int.neg_mul, Int.neg_mul] at h1 h2
  rw [Int.mul_sub, Int.mul_sub, Int.mul_sub, Int.mul_one] at c ⊢
  omega
theorem low_next {x : Tr} {l h p q a b : Int} (ho : 1 ≤ x.2.2) (P : LowP (vl x) l h p q) (A : IsArg (gq x (-p) q) l h false b) (B : IsArg (gq x p (-q)) l h false a) (c : ¬ q * (vl x b - vl x a - 1) ≤ p * (b - a)) :
    a < b ∧ LowP (vl x) l h (fr (vl x b - vl x a - 1) (b - a)).1 (fr (vl x b - vl x a - 1) (b - a)).2 ∧ p * (fr (vl x b - vl x a - 1) (b - a)).2 < (fr (vl x b - vl x a - 1) (b - a)).1 * q := by
  have q1 := P.q1
  have ab : a < b := by
    rcases Int.lt_trichotomy a b with z | z | z
    · exact z
    · exfalso
      subst z
      apply c
      rw [Int.sub_self, Int.sub_self, Int.mul_zero]
      omega
    · exfalso
      have lt := P.lt (slp_self (x := x) (l := l) (h := h) ho)
      have h1 := slp_self (x := x) (l := l) (h := h) ho a b B.l0 B.h0 A.l0 A.h0
      -- o (f b - f a - 1) < t (b - a), with b < a
      have h2 : q * (x.2.2 * (vl x b - vl x a - 1)) < q * (x.1 * (b - a)) := Int.mul_lt_mul_of_pos_left h1 (by omega)
      have h3 : x.2.2 * (p * (b - a)) < x.2.2 * (q * (vl x b - vl x a - 1)) := Int.mul_lt_mul_of_pos_left (by omega) (by omega)
      have h4 : x.1 * q * (a - b) < p * x.2.2 * (a - b) := by
        have e1 : q * (x.1 * (b - a)) = -(x.1 * q * (a - b)) := by rw [← Int.neg_sub a b, Int.mul_neg, Int.mul_neg, ← Int.mul_assoc, Int.mul_comm q x.1]
        have e2 : x.2.2 * (p * (b - a)) = -(p * x.2.2 * (a - b)) := by rw [← Int.neg_sub a b, Int.mul_neg, Int.mul_neg, ← Int.mul_assoc, Int.mul_comm x.2.2 p]
        have e3 : q * (x.2.2 * (vl x b - vl x a - 1)) = x.2.2 * (q * (vl x b - vl x a - 1)) := Int.mul_left_comm _ _ _
        omega
      have h5 := Int.lt_of_mul_lt_mul_right h4 (show 0 ≤ a - b by omega)
      omega
  have hk : 1 ≤ b - a := by omega
  obtain ⟨g, g0, e1, e2, f1, f2⟩ := fr_ok (p := vl x b - vl x a - 1) hk
  have fc := fr_cross (p := vl x b - vl x a - 1) hk
  have fl := fr_le (p := vl x b - vl x a - 1) hk
  refine ⟨ab, ⟨f1, f2, by have := A.h0; have := B.l0; omega, ⟨a, b, B.l0, ab, A.h0, by rw [fc, Int.mul_comm]⟩⟩, ?_⟩
  -- p q' < p' q
  have h1 : p * (b - a) < q * (vl x b - vl x a - 1) := by omega
  have h2 : p * (g * (fr (vl x b - vl x a - 1) (b - a)).2) < q * (g * (fr (vl x b - vl x a - 1) (b - a)).1) := by rw [← e1, ← e2]; exact h1
  have h3 : g * (p * (fr (vl x b - vl x a - 1) (b - a)).2) < g * ((fr (vl x b - vl x a - 1) (b - a)).1 * q) := by
    rw [Int.mul_left_comm] at h2
    have : q * (g * (fr (vl x b - vl x a - 1) (b - a)).1) = g * ((fr (vl x b - vl x a - 1) (b - a)).1 * q) := by rw [Int.mul_left_comm, Int.mul_comm q]
    omega
  exact Int.lt_of_mul_lt_mul_left h3 (by omega)
theorem low_start {x : Tr} {l h : Int} (hl : l < h) : LowP (vl x) l h (fr (vl x h - vl x l - 1) (h - l)).1 (fr (vl x h - vl x l - 1) (h - l)).2 := by
  have hk : 1 ≤ h - l := by omega
  obtain ⟨g, g0, e1, e2, f1, f2⟩ := fr_ok (p := vl x h - vl x l - 1) hk
  exact ⟨f1, f2, fr_le hk, ⟨l, h, Int.le_refl _, hl, Int.le_refl _, by rw [fr_cross hk, Int.mul_comm]⟩⟩
structure DOk (x : Tr) (l h : Int) : Prop where
  o1 : 1 ≤ x.2.2
  st : Sm 500 x.1
  sp : Sm 900 x.2.1
  so : Sm 500 x.2.2
  sl : Sm 500 l
  sh : Sm 500 h
  lh : l ≤ h
theorem vl_sm {x : Tr} {a b : Nat} {n : Int} (o1 : 1 ≤ x.2.2) (st : Sm a x.1) (sp : Sm (a + b) x.2.1) (sn : Sm b n) : Sm (a + b + 1) (vl x n) := (Sm.add (st.mul sn) sp).div (by omega)
theorem DOk.val {x : Tr} {l h n : Int} (d : DOk x l h) (h1 : l ≤ n) (h2 : n ≤ h) : Sm 1001 (vl x n) := vl_sm d.o1 d.st (d.sp.mono (by decide)) (sm_between d.sl d.sh h1 h2)
theorem DOk.num {x : Tr} {l h a b : Int} (d : DOk x l h) (a1 : l ≤ a) (a2 : a ≤ h) (b1 : l ≤ b) (b2 : b ≤ h) : Sm 1003 (vl x b - vl x a - 1) :=
  Sm.sub (a := 1002) (Sm.sub (d.val b1 b2) (d.val a1 a2)) ((show Sm 1 1 by decide).mono (by decide))
theorem DOk.neg {x : Tr} {l h : Int} (d : DOk x l h) (sp : Sm 500 x.2.1) : DOk (negT x) l h :=
  ⟨d.o1, d.st.neg, (Sm.sub (a := 501) (Sm.sub d.so ((show Sm 1 1 by decide).mono (by decide))) (sp.mono (by decide))).mono (by decide), d.so, d.sl, d.sh, d.lh⟩
end Dl
namespace Dl
open PySem L2
def df (x y : Tr) (n : Int) : Int := if vl x n = vl y n then 0 else 1
structure Gap (x y : Tr) (n d w : Int) : Prop where
  up : w ≤ d → vl x n < vl y n
  dn : d ≤ -w → vl y n < vl x n
  mu : 0 ≤ d → d < w → vl y n - vl x n = df x y n
  md : -w < d → d ≤ 0 → vl x n - vl y n = df x y n
structure Cut (S A W l h a b c : Int) : Prop where
  la : l ≤ a
  ab : a ≤ b
  bc : b ≤ c
  ch : c ≤ h + 1
  r1 : ∀ n, l ≤ n → n < a → S * n + A ≤ -W
  r2 : ∀ n, a ≤ n → n < b → -W < S * n + A ∧ S * n + A ≤ 0
  r3 : ∀ n, b ≤ n → n < c → 0 ≤ S * n + A ∧ S * n + A < W
  r4 : ∀ n, c ≤ n → n ≤ h → W ≤ S * n + A
def shT (x : Tr) (k : Int) : Tr := (x.1, x.2.1 + x.1 * k, x.2.2)
end Dl
namespace Dl
open PySem L2
theorem NrOk.dok {y : Tr} {l h : Int} (d : NrOk y) (sl : Sm 300 l) (sh : Sm 300 h) (hl : l ≤ h) : DOk y l h := ⟨d.o1, d.t.mono (by decide), d.p.mono (by decide), d.o.mono (by decide), sl.mono (by decide), sh.mono (by decide), hl⟩
theorem NrOk.sh {y : Tr} {l h k : Int} (d : NrOk y) (sk : Sm 100 k) (sl : Sm 300 l) (sh : Sm 300 h) (hl : l ≤ h) : DOk (shT y k) l h := ⟨d.o1, d.t.mono (by decide), (Sm.add (a := 500) (d.p.mono (by decide)) ((d.t.mul sk).mono (by decide))).mono (by decide), d.o.mono (by decide), sl.mono (by decide), sh.mono (by decide), hl⟩
end Dl
namespace Dl
open PySem L2
abbrev Pc := Tr × Int × Int
def pcD (q : Pc) : D := .tup [trL q.1, .int q.2.1, .int q.2.2]
def belT (x : Tr) : Tr := (x.1, x.2.1 - 1, x.2.2)
def topN (x : Tr) (n : Int) : Int := x.1 * n + x.2.1
def dueZ (x : Tr) (n : Int) : Int := if 0 ≤ topN x n then topN x n / x.2.2 else 0 - (0 - topN x n) / x.2.2 - 1
structure PcOk (x : Tr) (h : Int) (q : Pc) : Prop where
  le : q.2.1 ≤ q.2.2
  hi : q.2.2 ≤ h
  sg : ∀ n, q.2.1 ≤ n → n ≤ q.2.2 → (topN x n < 0 ↔ topN x q.2.1 < 0)
  vl : ∀ n, q.2.1 ≤ n → n ≤ q.2.2 → vl q.1 n = dueZ x n
  ln : q.1 = x ∨ q.1 = belT x
end Dl
namespace Dl
open PySem L2
structure Iv where
  p1 : Int
  q1 : Int
  p2 : Int
  q2 : Int
structure InI (I : Iv) (u v : Int) : Prop where
  v1 : 1 ≤ v
  lo : I.p1 * v < u * I.q1
  hi : u * I.q2 < I.p2 * v
structure SB (I : Iv) (u v : Int) : Prop where
  mem : InI I u v
  den : ∀ u' v', InI I u' v' → v ≤ v'
  num : 0 ≤ I.p1 → ∀ u' v', InI I u' v' → u ≤ u'
  one : ∀ u', InI I u' v → u ≤ u'
structure IOk (I : Iv) : Prop where
  q1 : 1 ≤ I.q1
  q2 : 1 ≤ I.q2
  lt : I.p1 * I.q2 < I.p2 * I.q1
def Iv.w (I : Iv) : Int := I.p1 / I.q1
def Iv.lt (I : Iv) : Int := I.p1 - I.w * I.q1
def Iv.ht (I : Iv) : Int := I.p2 - I.w * I.q2
def Iv.inn (I : Iv) : Iv := ⟨I.q2, I.ht, I.q1, I.lt⟩
section
variable {I : Iv} (k : IOk I)
include k
theorem IOk.fl : I.p1 = I.w * I.q1 + I.lt ∧ 0 ≤ I.lt ∧ I.lt < I.q1 := by
  have q1 := k.q1
  have a := Int.mul_ediv_add_emod I.p1 I.q1
  have b := Int.emod_nonneg I.p1 (show I.q1 ≠ 0 by omega)
  have c := Int.emod_lt_of_pos I.p1 (show 0 < I.q1 by omega)
  have e : I.w * I.q1 = I.q1 * (I.p1 / I.q1) := Int.mul_comm _ _
  unfold Iv.lt
  omega
theorem IOk.cross : I.lt * I.q2 < I.ht * I.q1 := by
  have h := k.lt
  unfold Iv.lt Iv.ht
  rw [Int.sub_mul, Int.sub_mul, Int.mul_right_comm I.w I.q1 I.q2]
  omega
theorem IOk.ht0 : 0 < I.ht := by
  have h := k.cross
  have f := k.fl
  have q1 := k.q1
  have q2 := k.q2
  have a := Int.mul_nonneg f.2.1 (show 0 ≤ I.q2 by omega)
  rcases Int.lt_or_le 0 I.ht with c | c
  · exact c
  · have := Int.mul_nonpos_of_nonpos_of_nonneg c (show 0 ≤ I.q1 by omega)
    omega
theorem w0 (h : 0 ≤ I.p1) : 0 ≤ I.w := Int.ediv_nonneg h (by have := k.q1; omega)
theorem sb_one (h : (I.w + 1) * I.q2 < I.p2) : SB I (I.w + 1) 1 := by
  have f := k.fl
  have q1 := k.q1
  refine ⟨⟨Int.le_refl _, ?_, by rw [Int.mul_one]; exact h⟩, fun u' v' m => m.v1, fun p0 u' v' m => ?_, fun u' m => ?_⟩
  · rw [Int.mul_one, Int.add_mul, Int.one_mul]; omega
  · have a := m.lo
    have b : I.p1 * 1 ≤ I.p1 * v' := Int.mul_le_mul_of_nonneg_left m.v1 p0
    have c : I.w * I.q1 < u' * I.q1 := by omega
    have := Int.lt_of_mul_lt_mul_right c (by omega)
    omega
  · have a := m.lo
    have c : I.w * I.q1 < u' * I.q1 := by omega
    have := Int.lt_of_mul_lt_mul_right c (by omega)
    omega
theorem sb_zero (h : I.lt = 0) : SB I (1 + I.w * (I.q2 / I.ht + 1)) (I.q2 / I.ht + 1) := by
  have f := k.fl
  have q1 := k.q1
  have q2 := k.q2
  have h0 := k.ht0
  have e1 : I.p1 = I.w * I.q1 := by omega
  have e2 : I.p2 = I.ht + I.w * I.q2 := by unfold Iv.ht; omega
  have d0 := Int.ediv_nonneg (show 0 ≤ I.q2 by omega) (show 0 ≤ I.ht by omega)
  have hv : I.q2 < I.ht * (I.q2 / I.ht + 1) := by
    have a := Int.mul_ediv_add_emod I.q2 I.ht
    have b := Int.emod_lt_of_pos I.q2 h0
    rw [Int.mul_add, Int.mul_one]; omega
  generalize hv0 : I.q2 / I.ht + 1 = v at hv
  have bound : ∀ u' v', InI I u' v' → I.w * v' + 1 ≤ u' ∧ v ≤ v' := by
    intro u' v' m
    have a := m.lo
    have b := m.hi
    have v1 := m.v1
    rw [e1, Int.mul_right_comm] at a
    have c := Int.lt_of_mul_lt_mul_right a (show 0 ≤ I.q1 by omega)
    refine ⟨by omega, ?_⟩
    rw [e2, Int.add_mul, Int.mul_right_comm] at b
    have d : (u' - I.w * v') * I.q2 < I.ht * v' := by rw [Int.sub_mul]; omega
    have g : 1 * I.q2 ≤ (u' - I.w * v') * I.q2 := Int.mul_le_mul_of_nonneg_right (by omega) (by omega)
    have hh : I.q2 < v' * I.ht := by rw [Int.mul_comm v']; omega
    have := Int.ediv_lt_of_lt_mul h0 hh
    omega
  refine ⟨⟨by omega, ?_, ?_⟩, fun u' v' m => (bound u' v' m).2, fun p0 u' v' m => ?_, fun u' m => by have := (bound u' v m).1; omega⟩
  · rw [e1, Int.add_mul, Int.one_mul, Int.mul_right_comm]; omega
  · rw [e2, Int.add_mul, Int.one_mul, Int.add_mul, Int.mul_right_comm]; omega
  · have b := bound u' v' m
    have := Int.mul_le_mul_of_nonneg_left b.2 (w0 k p0)
    omega
theorem inn_ok (h : 0 < I.lt) : IOk I.inn := ⟨k.ht0, h, by show I.q2 * I.lt < I.q1 * I.ht; have := k.cross; rw [Int.mul_comm I.q2, Int.mul_comm I.q1]; exact this⟩
theorem in_inn {u v : Int} (m : InI I u v) : InI I.inn v (u - I.w * v) := by
  have f := k.fl
  have q1 := k.q1
  have a := m.lo
  have b := m.hi
  have v1 := m.v1
  have e2 : I.p2 = I.ht + I.w * I.q2 := by unfold Iv.ht; omega
  have c : v * I.lt < I.q1 * (u - I.w * v) := by
    rw [f.1, Int.add_mul, Int.mul_right_comm] at a
    rw [Int.mul_sub, Int.mul_comm v I.lt, Int.mul_comm I.q1 u, Int.mul_comm I.q1 (I.w * v)]
    omega
  have d : I.q2 * (u - I.w * v) < v * I.ht := by
    rw [e2, Int.add_mul, Int.mul_right_comm] at b
    rw [Int.mul_sub, Int.mul_comm I.q2 u, Int.mul_comm I.q2 (I.w * v), Int.mul_comm v I.ht]
    omega
  refine ⟨?_, d, c⟩
  have g := Int.mul_nonneg (show 0 ≤ v by omega) f.2.1
  rcases Int.lt_or_le 0 (u - I.w * v) with z | z
  · omega
  · have := Int.mul_nonpos_of_nonneg_of_nonpos (show 0 ≤ I.q1 by omega) z
    omega
theorem sb_step {c d : Int} (s : SB I.inn c d) : SB I (d + I.w * c) c := by
  have f := k.fl
  have q2 := k.q2
  have h0 := k.ht0
  have e2 : I.p2 = I.ht + I.w * I.q2 := by unfold Iv.ht; omega
  have m1 : I.q2 * d < c * I.ht := s.mem.lo
  have m2 : c * I.lt < I.q1 * d := s.mem.hi
  have d1 := s.mem.v1
  have c1 : 1 ≤ c := by
    have := Int.mul_pos (show 0 < I.q2 by omega) (show 0 < d by omega)
    rcases Int.lt_or_le 0 c with z | z
    · omega
    · have := Int.mul_nonpos_of_nonpos_of_nonneg z (show 0 ≤ I.ht by omega)
      omega
  refine ⟨⟨c1, ?_, ?_⟩, fun u' v' m => ?_, fun p0 u' v' m => ?_, fun u' m => by have := s.den _ _ (in_inn k m); omega⟩
  · rw [f.1, Int.add_mul, Int.add_mul, Int.mul_right_comm, Int.mul_comm I.lt, Int.mul_comm d]; omega
  · rw [e2, Int.add_mul, Int.add_mul, Int.mul_right_comm I.w c, Int.mul_comm d, Int.mul_comm I.ht]; omega
  · exact s.num (by show 0 ≤ I.q2; omega) _ _ (in_inn k m)
  · have a := s.num (by show 0 ≤ I.q2; omega) _ _ (in_inn k m)
    have b := s.den _ _ (in_inn k m)
    have := Int.mul_le_mul_of_nonneg_left a (w0 k p0)
    omega
end
def unf : List Int → Int × Int → Int × Int
  | [], r => r
  | w :: ws, r => unf ws (r.2 + w * r.1, r.1)
structure Lv where
  I : Iv
  a : Int
  b : Int
structure LOk (L : Lv) : Prop where
  ok : IOk L.I
  mem : InI L.I L.a L.b
  s1 : Sm 1003 L.I.p1
  s2 : Sm 1003 L.I.p2
  t1 : Sm 501 L.I.q1
  t2 : Sm 501 L.I.q2
  sb : Sm 501 L.b
def Lv.nx (L : Lv) : Lv := ⟨L.I.inn, L.b, L.a - L.I.w * L.b⟩
structure Dp (L : Lv) : Prop where
  pa : 0 < L.a
  sa : Sm 501 L.a
  p1 : 0 < L.I.p1
theorem LOk.down {L : Lv} (h : LOk L) (hl : 0 < L.I.lt) (hh : L.I.p2 ≤ (L.I.w + 1) * L.I.q2) : LOk L.nx ∧ Dp L.nx ∧ L.nx.I.q1 + L.nx.I.q2 < L.I.q1 + L.I.q2 ∧ L.nx.b ≤ L.nx.a ∧ 0 < L.nx.b := by
  have f := h.ok.fl
  have h0 := h.ok.ht0
  have q1 := h.ok.q1
  have q2 := h.ok.q2
  have hq : L.I.ht ≤ L.I.q2 := by unfold Iv.ht; rw [Int.add_mul, Int.one_mul] at hh; omega
  have m := in_inn h.ok h.mem
  have b1 : 0 < L.a - L.I.w * L.b := by have := m.v1; omega
  have hb := h.mem.v1
  have ba : L.a - L.I.w * L.b ≤ L.b := by
    -- q2 (a - w b) < b ht ≤ b q2
    have x1 : L.I.q2 * (L.a - L.I.w * L.b) < L.b * L.I.ht := m.lo
    have x2 := Int.mul_le_mul_of_nonneg_left hq (show 0 ≤ L.b by omega)
    rw [Int.mul_comm L.b L.I.q2] at x2
    have := Int.lt_of_mul_lt_mul_left (show L.I.q2 * (L.a - L.I.w * L.b) < L.I.q2 * L.b by omega) (by omega)
    omega
  refine ⟨⟨inn_ok h.ok hl, m, h.t2.mono (by decide), h.t1.mono (by decide), h.t2.le (by show 0 ≤ L.I.ht; omega) hq, h.t1.le (by show 0 ≤ L.I.lt; omega) (by show L.I.lt ≤ L.I.q1; omega), h.sb.le (by show 0 ≤ L.a - L.I.w * L.b; omega) ba⟩, ⟨by show 0 < L.b; omega, h.sb, by show 0 < L.I.q2; omega⟩, ?_, ba, b1⟩
  show L.I.ht + L.I.lt < L.I.q1 + L.I.q2
  omega
inductive LP (L0 : Lv) : List Int → Lv → Prop
  | nil : LP L0 [] L0
  | cons {ws : List Int} {L : Lv} : LP L0 ws L → LOk L → 0 < L.I.lt → L.I.p2 ≤ (L.I.w + 1) * L.I.q2 → LP L0 (L.I.w :: ws) L.nx
theorem LP.sb {L0 : Lv} : ∀ {ws : List Int} {L : Lv} {c d : Int}, LP L0 ws L → SB L.I c d → SB L0.I (unf ws (c, d)).1 (unf ws (c, d)).2
  | _, _, _, _, .nil, s => s
  | _, _, c, d, .cons (ws := ws) (L := L) P ok hl hh, s => by
    have z := LP.sb P (sb_step ok.ok s)
    exact z
theorem SB.uniq {I : Iv} {u v u' v' : Int} (a : SB I u v) (b : SB I u' v') : u = u' ∧ v = v' := by
  have h1 := a.den _ _ b.mem
  have h2 := b.den _ _ a.mem
  have e : v = v' := by omega
  subst e
  have h3 := a.one _ b.mem
  have h4 := b.one _ a.mem
  exact ⟨by omega, rfl⟩
def UfOk : List Int → Int × Int → Prop
  | [], _ => True
  | w :: ws, r => IntMulOk w r.1 ∧ UfOk ws (r.2 + w * r.1, r.1)
theorem LP.uok {L0 : Lv} : ∀ {ws : List Int} {L : Lv} {c d : Int}, LP L0 ws L → SB L.I c d → UfOk ws (c, d)
  | _, _, _, _, .nil, _ => trivial
  | _, _, c, d, .cons (ws := ws) (L := L) P ok hl hh, s => by
    have dn := ok.down hl hh
    have q2 := ok.ok.q2
    have s2 := sb_step ok.ok s
    have c1 : 0 ≤ c := by have := s2.mem.v1; omega
    have c2 : c ≤ L.b := s.num (by show 0 ≤ L.I.q2; omega) _ _ dn.1.mem
    exact ⟨mul_ok (a := 1003) (b := 501) (ok.s1.div (by have := ok.ok.q1; omega)) (ok.sb.le c1 c2) (by decide), LP.uok P s2⟩
theorem LP.dp {L0 : Lv} {ws : List Int} {L : Lv} (P : LP L0 ws L) (h : ws ≠ []) : Dp L ∧ L.b ≤ L.a ∧ 0 < L.b := by
  cases P with
  | nil => exact absurd rfl h
  | cons P ok hl hh => exact ⟨(ok.down hl hh).2.1, (ok.down hl hh).2.2.2⟩
theorem nx_w {L2 : Lv} (ok2 : LOk L2) (hh2 : L2.I.p2 ≤ (L2.I.w + 1) * L2.I.q2) : 1 ≤ L2.nx.I.w := by
  show 1 ≤ L2.I.q2 / L2.I.ht
  have h0 := ok2.ok.ht0
  have hq : L2.I.ht ≤ L2.I.q2 := by unfold Iv.ht; rw [Int.add_mul, Int.one_mul] at hh2; omega
  exact Int.le_ediv_of_mul_le h0 (by omega)
theorem LP.w1 {L0 : Lv} {ws : List Int} {L : Lv} (P : LP L0 ws L) (h : ws ≠ []) : 1 ≤ L.I.w := by
  cases P with
  | nil => exact absurd rfl h
  | cons P ok hl hh => exact nx_w ok hh
theorem LP.prod {L0 : Lv} : ∀ {ws : List Int} {L : Lv}, LP L0 ws L → ws ≠ [] → L.a * L.b * 2 ^ (ws.length - 1) < 2 ^ 1002
  | _, _, .nil, h => absurd rfl h
  | _, _, .cons (ws := ws) (L := L) P ok hl hh, _ => by
    have dn := ok.down hl hh
    have b1 : 0 < L.a - L.I.w * L.b := dn.2.2.2.2
    have ba : L.a - L.I.w * L.b ≤ L.b := dn.2.2.2.1
    have hb := ok.mem.v1
    show L.b * (L.a - L.I.w * L.b) * 2 ^ ws.length < _
    cases ws with
    | nil =>
      show L.b * (L.a - L.I.w * L.b) * 2 ^ 0 < _
      rw [Int.pow_zero, Int.mul_one]
      have a := ok.sb.lt
      have e : (2 : Int) ^ 1002 = 2 ^ 501 * 2 ^ 501 := by rw [← Int.pow_add]
      rw [e]
      exact Int.mul_lt_mul a (by omega) b1 (Int.le_of_lt (Int.pow_pos (by decide)))
    | cons w ws =>
      have ih := LP.prod P (by simp)
      have dp := P.dp (by simp)
      -- a >= b, so a - w b <= a / 2
      have w1 : 1 ≤ L.I.w := by
        -- p1 >= q1 at a deeper level
        exact P.w1 (by simp)
      have h2 : 2 * (L.a - L.I.w * L.b) ≤ L.a := by
        have := Int.mul_le_mul_of_nonneg_right w1 (show 0 ≤ L.b by omega)
        omega
      have h3 : L.b * (L.a - L.I.w * L.b) * 2 ≤ L.a * L.b := by
        have := Int.mul_le_mul_of_nonneg_left h2 (show 0 ≤ L.b by omega)
        have e1 : L.b * (2 * (L.a - L.I.w * L.b)) = L.b * (L.a - L.I.w * L.b) * 2 := by rw [Int.mul_left_comm, Int.mul_comm]
        have e2 : L.b * L.a = L.a * L.b := Int.mul_comm _ _
        omega
      have e4 : (2 : Int) ^ (w :: ws).length = 2 * 2 ^ ((w :: ws).length - 1) := by
        show (2 : Int) ^ (ws.length + 1) = 2 * 2 ^ ws.length
        rw [Int.pow_succ, Int.mul_comm]
      rw [e4, ← Int.mul_assoc]
      exact Int.lt_of_le_of_lt (Int.mul_le_mul_of_nonneg_right h3 (Int.le_of_lt (Int.pow_pos (by decide)))) ih
theorem LP.len {L0 : Lv} {ws : List Int} {L : Lv} (P : LP L0 ws L) : ws.length ≤ 1003 := by
  cases ws with
  | nil => simp
  | cons w ws =>
    have c := P.prod (by simp)
    obtain ⟨dp, ba, b0⟩ := P.dp (by simp)
    have h1 : 1 ≤ L.a * L.b := by
      have := Int.mul_le_mul (show 1 ≤ L.a by have := dp.pa; omega) (show 1 ≤ L.b by omega) (by omega) (by have := dp.pa; omega)
      omega
    have h2 : (2 : Int) ^ ((w :: ws).length - 1) ≤ L.a * L.b * 2 ^ ((w :: ws).length - 1) := by
      have := Int.mul_le_mul_of_nonneg_right h1 (Int.le_of_lt (show (0 : Int) < 2 ^ ((w :: ws).length - 1) from Int.pow_pos (by decide)))
      rw [Int.one_mul] at this
      exact this
    have h3 : (2 : Int) ^ ((w :: ws).length - 1) < 2 ^ 1002 := Int.lt_of_le_of_lt h2 c
    have h4 : (w :: ws).length - 1 < 1002 := by
      rcases Nat.lt_or_ge ((w :: ws).length - 1) 1002 with z | z
      · exact z
      · have := pow_le z
        omega
    omega
end Dl
namespace Dl
open PySem L2
theorem LowS.toP {f : Int → Int} {l h p q : Int} (a : LowS f l h p q) : LowP f l h p q := by
  refine ⟨a.q1, a.cop, ?_, a.ex⟩
  obtain ⟨c, d, c1, cd, d1, e⟩ := a.ex
  have := Int.le_of_dvd (by omega) (cop_dvd a.cop ⟨_, e⟩)
  omega
theorem low_sm {x : Tr} {l h p q : Int} (d : DOk x l h) (P : LowP (vl x) l h p q) : Sm 1003 p ∧ Sm 501 q := by
  have q1 := P.q1
  have sq : Sm 501 q := (Sm.sub d.sh d.sl).le (by omega) P.qN
  refine ⟨?_, sq⟩
  obtain ⟨a, b, a1, ab, b1, e⟩ := P.ex
  have s1 := d.num a1 (by omega) (by omega) b1
  have hd : q ∣ p * (b - a) := ⟨_, e⟩
  have hq := cop_dvd P.cop hd
  obtain ⟨k, hk⟩ := hq
  rw [hk, Int.mul_left_comm] at e
  have e2 : p * k = vl x b - vl x a - 1 := Int.eq_of_mul_eq_mul_left (show q ≠ 0 by omega) e
  have k1 : 1 ≤ k := by
    rcases Int.lt_or_le 0 k with c | c
    · omega
    · have := Int.mul_nonpos_of_nonneg_of_nonpos (show 0 ≤ q by omega) c
      omega
  unfold Sm at s1 ⊢
  rw [← e2, Int.natAbs_mul] at s1
  have : p.natAbs * 1 ≤ p.natAbs * k.natAbs := Nat.mul_le_mul_left _ (by omega)
  omega
theorem DOk.ng {x : Tr} {l h : Int} (d : DOk x l h) (sp : Sm 898 x.2.1) : DOk (negT x) l h :=
  ⟨d.o1, d.st.neg, Sm.sub (a := 899) ((Sm.sub (a := 500) d.so ((show Sm 1 1 by decide).mono (by decide))).mono (by decide)) (sp.mono (by decide)) |>.mono (by decide), d.so, d.sl, d.sh, d.lh⟩
def HiS (x : Tr) (l h p q : Int) : Prop := LowS (vl (negT x)) l h (-p) q
structure Slo (x : Tr) (l h : Int) (I : Iv) : Prop where
  lo : LowS (vl x) l h I.p1 I.q1
  hi : HiS x l h I.p2 I.q2
theorem Slo.uniq {x : Tr} {l h : Int} {I J : Iv} (a : Slo x l h I) (b : Slo x l h J) : I = J := by
  have h1 := a.lo.uniq b.lo
  have h2 := LowS.uniq a.hi b.hi
  obtain ⟨p1, q1, p2, q2⟩ := I
  obtain ⟨p1', q1', p2', q2'⟩ := J
  have e1 : p1 = p1' := h1.1
  have e2 : q1 = q1' := h1.2
  have e3 : -p2 = -p2' := h2.1
  have e4 : q2 = q2' := h2.2
  have e5 : p2 = p2' := by omega
  rw [e1, e2, e4, e5]
theorem Slo.self {x : Tr} {l h : Int} {I : Iv} (a : Slo x l h I) (o1 : 1 ≤ x.2.2) : InI I x.1 x.2.2 := by
  have h1 := a.lo.toP.lt (slp_self (x := x) (l := l) (h := h) o1)
  have h2 := LowP.lt (LowS.toP a.hi) (slp_self (x := negT x) (l := l) (h := h) o1)
  have h3 : -I.p2 * x.2.2 < -x.1 * I.q2 := h2
  rw [Int.neg_mul, Int.neg_mul] at h3
  exact ⟨o1, h1, by omega⟩
theorem Slo.ok {x : Tr} {l h : Int} {I : Iv} (a : Slo x l h I) (o1 : 1 ≤ x.2.2) : IOk I := by
  have m := a.self o1
  have q1 := a.lo.q1
  have q2 : 1 ≤ I.q2 := LowS.q1 a.hi
  refine ⟨q1, q2, ?_⟩
  -- p1 o q2 < t q1 q2 < p2 o q1
  have h1 := Int.mul_lt_mul_of_pos_right m.lo (show 0 < I.q2 by omega)
  have h2 := Int.mul_lt_mul_of_pos_right m.hi (show 0 < I.q1 by omega)
  have h3 : I.p1 * I.q2 * x.2.2 < I.p2 * I.q1 * x.2.2 := by
    rw [Int.mul_right_comm, Int.mul_right_comm I.p2]
    have : x.1 * I.q1 * I.q2 = x.1 * I.q2 * I.q1 := Int.mul_right_comm _ _ _
    omega
  exact Int.lt_of_mul_lt_mul_right h3 (by omega)
theorem Slo.lok {x : Tr} {l h : Int} {I : Iv} (a : Slo x l h I) (d : DOk x l h) (sp : Sm 898 x.2.1) : LOk ⟨I, x.1, x.2.2⟩ := by
  obtain ⟨s1, s2⟩ := low_sm d a.lo.toP
  obtain ⟨s3, s4⟩ := low_sm (d.ng sp) (LowS.toP a.hi)
  have s5 := s3.neg
  rw [Int.neg_neg] at s5
  exact ⟨a.ok d.o1, a.self d.o1, s1, s5, s2, s4, d.so.mono (by decide)⟩
theorem sb_sm {L : Lv} {u v : Int} (k : LOk L) (s : SB L.I u v) : Sm 1505 u ∧ Sm 501 v := by
  have v1 := s.mem.v1
  have sv : Sm 501 v := k.sb.le (by omega) (s.den _ _ k.mem)
  refine ⟨?_, sv⟩
  have q1 := k.ok.q1
  have q2 := k.ok.q2
  have s1 := k.s1.mul sv
  have s2 := k.s2.mul sv
  have a := s.mem.lo
  have b := s.mem.hi
  -- |u| <= max |p1 v| |p2 v|
  unfold Sm at s1 s2 ⊢
  have e : (2 : Nat) ^ 1505 = 2 * 2 ^ (1003 + 501) := by rw [Nat.pow_succ, Nat.mul_comm]
  rcases Int.lt_or_le u 0 with z | z
  · have := Int.mul_le_mul_of_nonpos_left (show u ≤ 0 by omega) q1
    omega
  · have := Int.mul_le_mul_of_nonneg_left q2 z
    omega
end Dl
namespace Dl
open PySem L2
theorem bezN (a b : Nat) : ∃ x y : Int, (a : Int) * x + (b : Int) * y = (Nat.gcd a b : Nat) := by
  induction a, b using Nat.gcd.induction with
  | H0 n => exact ⟨0, 1, by simp⟩
  | H1 m n hm ih =>
    obtain ⟨x, y, e⟩ := ih
    refine ⟨y - (n / m : Nat) * x, x, ?_⟩
    rw [Nat.gcd_rec, ← e]
    have d : (n : Int) = (m : Int) * (n / m : Nat) + (n % m : Nat) := by
      have := Nat.div_add_mod n m
      rw [← Int.natCast_mul, ← Int.natCast_add, this]
    have e1 : (m : Int) * (y - (n / m : Nat) * x) = m * y - m * (n / m : Nat) * x := by rw [Int.mul_sub, Int.mul_assoc]
    have e2 : (n : Int) * x = m * (n / m : Nat) * x + (n % m : Nat) * x := by
      conv => lhs; rw [d]
      rw [Int.add_mul]
    rw [e1, e2]
    omega
theorem bezI {p q : Int} (h : gcdI p q = 1) : ∃ x y : Int, p * x + q * y = 1 := by
  obtain ⟨x, y, e⟩ := bezN p.natAbs q.natAbs
  have e1 : ((Nat.gcd p.natAbs q.natAbs : Nat) : Int) = 1 := h
  rw [e1] at e
  have s : ∀ (a z : Int), ∃ z', a * z' = (a.natAbs : Int) * z := fun a z => by
    rcases Int.natAbs_eq a with c | c
    · exact ⟨z, by rw [← c]⟩
    · refine ⟨-z, ?_⟩
      have : (a.natAbs : Int) = -a := by omega
      rw [this, Int.mul_neg, Int.neg_mul]
  obtain ⟨x', ex⟩ := s p x
  obtain ⟨y', ey⟩ := s q y
  exact ⟨x', y', by rw [ex, ey]; exact e⟩
theorem solve {u v : Int} (hv : 1 ≤ v) (h : gcdI u v = 1) (c : Int) : ∃ n, 0 ≤ n ∧ n < v ∧ ∃ j, u * n = c + v * j := by
  obtain ⟨x, y, e⟩ := bezI h
  refine ⟨(x * c) % v, Int.emod_nonneg _ (by omega), Int.emod_lt_of_pos _ (by omega), -(y * c) - u * (x * c / v), ?_⟩
  have d := Int.mul_ediv_add_emod (x * c) v
  have e1 : u * (x * c) = c - v * (y * c) := by
    have : (u * x + v * y) * c = c := by rw [e, Int.one_mul]
    rw [Int.add_mul, Int.mul_assoc, Int.mul_assoc] at this
    omega
  have e2 : x * c % v = x * c - v * (x * c / v) := by omega
  rw [e2, Int.mul_sub, e1, Int.mul_sub, Int.mul_neg, Int.mul_left_comm u v]
  omega
end Dl
namespace Dl
def rs (u w v n : Int) : Int := (u * n + w) % v
theorem rs_rng {u w v : Int} (hv : 1 ≤ v) (n : Int) : 0 ≤ rs u w v n ∧ rs u w v n < v := ⟨Int.emod_nonneg _ (by omega), Int.emod_lt_of_pos _ (by omega)⟩
theorem rs_iff {u w v n k : Int} (k0 : 0 ≤ k) (kv : k < v) : rs u w v n = k ↔ ∃ j, u * n + w = k + v * j := by
  constructor
  · intro h
    refine ⟨(u * n + w) / v, ?_⟩
    have := Int.mul_ediv_add_emod (u * n + w) v
    unfold rs at h
    omega
  · rintro ⟨j, e⟩
    unfold rs
    rw [e, Int.add_mul_emod_self_left]
    exact Int.emod_eq_of_lt k0 kv
theorem rs_go {u w v n m k : Int} (hv : 1 ≤ v) (k0 : 0 ≤ k) (kv : k < v) (h : ∃ j, u * (m - n) = k - rs u w v n + v * j) : rs u w v m = k := by
  obtain ⟨j, e⟩ := h
  obtain ⟨i, ei⟩ := (rs_iff (u := u) (w := w) (n := n) (rs_rng (u := u) (w := w) hv n).1 (rs_rng hv n).2).mp rfl
  refine (rs_iff k0 kv).mpr ⟨i + j, ?_⟩
  rw [Int.mul_sub] at e
  rw [Int.mul_add]
  omega
theorem mul_stp {u e v j c : Int} (h : u * e = c + v * j) (t : Int) : u * (t * e) = t * c + v * (t * j) := by
  have : t * (u * e) = t * c + t * (v * j) := by rw [h, Int.mul_add]
  rw [Int.mul_left_comm, this, Int.mul_left_comm t v]
theorem rs_up {u w v e j a b : Int} (hv : 1 ≤ v) (e0 : 0 ≤ e) (h : u * e = 1 + v * j) (k : e * (v + rs u w v b - rs u w v a) ≤ b - a) : ∃ n, a ≤ n ∧ n + e ≤ b ∧ rs u w v n = v - 1 ∧ rs u w v (n + e) = 0 := by
  obtain ⟨a0, a1⟩ := rs_rng (u := u) (w := w) hv a
  obtain ⟨b0, b1⟩ := rs_rng (u := u) (w := w) hv b
  have t0 : 0 ≤ (v - 1 - rs u w v a) * e := Int.mul_nonneg (by omega) e0
  have m1 := mul_stp h (v - 1 - rs u w v a)
  refine ⟨a + (v - 1 - rs u w v a) * e, by omega, ?_, ?_, ?_⟩
  · have : (v - 1 - rs u w v a + 1) * e ≤ (v + rs u w v b - rs u w v a) * e := Int.mul_le_mul_of_nonneg_right (by omega) e0
    rw [Int.add_mul, Int.one_mul] at this
    rw [Int.mul_comm e] at k
    omega
  · exact rs_go hv (n := a) (by omega) (by omega) ⟨(v - 1 - rs u w v a) * j, by rw [Int.add_comm a, Int.add_sub_cancel]; omega⟩
  · refine rs_go hv (n := a) (by omega) (by omega) ⟨(v - 1 - rs u w v a) * j + j + 1, ?_⟩
    have : a + (v - 1 - rs u w v a) * e + e - a = (v - 1 - rs u w v a) * e + e := by omega
    rw [this, Int.mul_add, m1, h, Int.mul_add, Int.mul_add]
    omega
theorem rs_dn {u w v e j a b : Int} (hv : 1 ≤ v) (e0 : 0 ≤ e) (h : u * e = -1 + v * j) (k : e * (v + rs u w v a - rs u w v b) ≤ b - a) : ∃ n, a ≤ n ∧ n + e ≤ b ∧ rs u w v n = 0 ∧ rs u w v (n + e) = v - 1 := by
  obtain ⟨a0, a1⟩ := rs_rng (u := u) (w := w) hv a
  obtain ⟨b0, b1⟩ := rs_rng (u := u) (w := w) hv b
  have t0 : 0 ≤ rs u w v a * e := Int.mul_nonneg (by omega) e0
  have m1 := mul_stp h (rs u w v a)
  refine ⟨a + rs u w v a * e, by omega, ?_, ?_, ?_⟩
  · have : (rs u w v a + 1) * e ≤ (v + rs u w v a - rs u w v b) * e := Int.mul_le_mul_of_nonneg_right (by omega) e0
    rw [Int.add_mul, Int.one_mul] at this
    rw [Int.mul_comm e] at k
    omega
  · exact rs_go hv (n := a) (by omega) (by omega) ⟨rs u w v a * j, by rw [Int.add_comm a, Int.add_sub_cancel]; omega⟩
  · refine rs_go hv (n := a) (by omega) (by omega) ⟨rs u w v a * j + j - 1, ?_⟩
    have : a + rs u w v a * e + e - a = rs u w v a * e + e := by omega
    rw [this, Int.mul_add, m1, h, Int.mul_sub, Int.mul_add]
    omega
structure Corn (u w v l h z0 z1 o0 o1 : Int) : Prop where
  v1 : 1 ≤ v
  i0 : l ≤ z0 ∧ z0 ≤ h
  i1 : l ≤ z1 ∧ z1 ≤ h
  k0 : l ≤ o0 ∧ o0 ≤ h
  k1 : l ≤ o1 ∧ o1 ≤ h
  r0 : rs u w v z0 = 0
  r1 : rs u w v z1 = 0
  s0 : rs u w v o0 = v - 1
  s1 : rs u w v o1 = v - 1
  z : ∀ n, l ≤ n → n ≤ h → rs u w v n = 0 → z0 ≤ n ∧ n ≤ z1
  o : ∀ n, l ≤ n → n ≤ h → rs u w v n = v - 1 → o0 ≤ n ∧ n ≤ o1
section
variable {u w v l h z0 z1 o0 o1 : Int} (C : Corn u w v l h z0 z1 o0 o1)
include C
theorem Corn.uniq {a0 a1 b0 b1 : Int} (D : Corn u w v l h a0 a1 b0 b1) : z0 = a0 ∧ z1 = a1 ∧ o0 = b0 ∧ o1 = b1 := by
  have c1 := C.z a0 D.i0.1 D.i0.2 D.r0
  have c2 := C.z a1 D.i1.1 D.i1.2 D.r1
  have c3 := C.o b0 D.k0.1 D.k0.2 D.s0
  have c4 := C.o b1 D.k1.1 D.k1.2 D.s1
  have d1 := D.z z0 C.i0.1 C.i0.2 C.r0
  have d2 := D.z z1 C.i1.1 C.i1.2 C.r1
  have d3 := D.o o0 C.k0.1 C.k0.2 C.s0
  have d4 := D.o o1 C.k1.1 C.k1.2 C.s1
  omega
theorem Corn.z0_le {e j n : Int} (e0 : 0 ≤ e) (he : u * e = -1 + v * j) (hn : l ≤ n) : z0 ≤ n + rs u w v n * e := by
  have r := rs_rng (u := u) (w := w) C.v1 n
  have t0 : 0 ≤ rs u w v n * e := Int.mul_nonneg r.1 e0
  have m1 := mul_stp he (rs u w v n)
  have v1 := C.v1
  have q : rs u w v (n + rs u w v n * e) = 0 := rs_go C.v1 (n := n) (by omega) (by omega) ⟨rs u w v n * j, by rw [Int.add_comm n, Int.add_sub_cancel]; omega⟩
  by_cases c : n + rs u w v n * e ≤ h
  · exact (C.z _ (by omega) c q).1
  · have := C.i0; omega
theorem Corn.z1_ge {e j n : Int} (e0 : 0 ≤ e) (he : u * e = 1 + v * j) (hn : n ≤ h) : n ≤ z1 + rs u w v n * e := by
  have r := rs_rng (u := u) (w := w) C.v1 n
  have t0 : 0 ≤ rs u w v n * e := Int.mul_nonneg r.1 e0
  have m1 := mul_stp he (rs u w v n)
  have v1 := C.v1
  have q : rs u w v (n - rs u w v n * e) = 0 := rs_go C.v1 (n := n) (by omega) (by omega) ⟨-(rs u w v n * j), by
    have : n - rs u w v n * e - n = -(rs u w v n * e) := by omega
    rw [this, Int.mul_neg, m1, Int.mul_neg v]; omega⟩
  by_cases c : l ≤ n - rs u w v n * e
  · have := (C.z _ c (by omega) q).2; omega
  · have := C.i1; omega
theorem Corn.o0_le {e j n : Int} (e0 : 0 ≤ e) (he : u * e = 1 + v * j) (hn : l ≤ n) : o0 ≤ n + (v - 1 - rs u w v n) * e := by
  have r := rs_rng (u := u) (w := w) C.v1 n
  have t0 : 0 ≤ (v - 1 - rs u w v n) * e := Int.mul_nonneg (by omega) e0
  have m1 := mul_stp he (v - 1 - rs u w v n)
  have v1 := C.v1
  have q : rs u w v (n + (v - 1 - rs u w v n) * e) = v - 1 := rs_go C.v1 (n := n) (by omega) (by omega) ⟨(v - 1 - rs u w v n) * j, by rw [Int.add_comm n, Int.add_sub_cancel]; omega⟩
  by_cases c : n + (v - 1 - rs u w v n) * e ≤ h
  · exact (C.o _ (by omega) c q).1
  · have := C.k0; omega
theorem Corn.o1_ge {e j n : Int} (e0 : 0 ≤ e) (he : u * e = -1 + v * j) (hn : n ≤ h) : n ≤ o1 + (v - 1 - rs u w v n) * e := by
  have r := rs_rng (u := u) (w := w) C.v1 n
  have t0 : 0 ≤ (v - 1 - rs u w v n) * e := Int.mul_nonneg (by omega) e0
  have m1 := mul_stp he (v - 1 - rs u w v n)
  have v1 := C.v1
  have q : rs u w v (n - (v - 1 - rs u w v n) * e) = v - 1 := rs_go C.v1 (n := n) (by omega) (by omega) ⟨-((v - 1 - rs u w v n) * j), by
    have : n - (v - 1 - rs u w v n) * e - n = -((v - 1 - rs u w v n) * e) := by omega
    rw [this, Int.mul_neg, m1, Int.mul_neg v]; omega⟩
  by_cases c : l ≤ n - (v - 1 - rs u w v n) * e
  · have := (C.o _ c (by omega) q).2; omega
  · have := C.k1; omega
end
structure Wide (u v z0 z1 o0 o1 : Int) : Prop where
  dn : ∀ e j, 0 ≤ e → e < v → u * e = 1 + v * j → e ≤ z1 - o0
  up : ∀ e j, 0 ≤ e → e < v → u * e = -1 + v * j → e ≤ o1 - z0
theorem lin_le {k e E o m s : Int} (k0 : 0 ≤ k) (s0 : 0 ≤ s) (eE : e ≤ E) (kE : k * E ≤ o) (m1 : m ≤ s * e) : k * m ≤ s * o := by
  have a := Int.mul_le_mul_of_nonneg_left m1 k0
  have b := Int.mul_le_mul_of_nonneg_left eE k0
  have c := Int.mul_le_mul_of_nonneg_left (show k * e ≤ o by omega) s0
  rw [Int.mul_left_comm] at a
  omega
theorem corn_line {u w v l h z0 z1 o0 o1 c d o e1 j1 e2 j2 : Int} (C : Corn u w v l h z0 z1 o0 o1) (W : Wide u v z0 z1 o0 o1) (ho : 1 ≤ o)
    (a1 : 0 ≤ e1) (b1 : e1 < v) (h1 : u * e1 = 1 + v * j1) (a2 : 0 ≤ e2) (b2 : e2 < v) (h2 : u * e2 = -1 + v * j2)
    (p0 : 0 ≤ c * z0 + d) (p1 : 0 ≤ c * z1 + d) (q0 : c * o0 + d < o) (q1 : c * o1 + d < o) {n : Int} (nl : l ≤ n) (nh : n ≤ h) : -(rs u w v n * o) ≤ c * n + d ∧ c * n + d < (v - rs u w v n) * o := by
  have r := rs_rng (u := u) (w := w) C.v1 n
  have v1 := C.v1
  have ro : 0 ≤ rs u w v n * o := Int.mul_nonneg r.1 (by omega)
  have rv : 0 ≤ (v - 1 - rs u w v n) * o := Int.mul_nonneg (by omega) (by omega)
  have ev : (v - rs u w v n) * o = (v - 1 - rs u w v n) * o + o := by
    rw [show v - rs u w v n = (v - 1 - rs u w v n) + 1 by omega, Int.add_mul, Int.one_mul]
  rw [ev]
  rcases Int.lt_or_le c 0 with hc | hc
  · have W1 := W.dn _ _ a1 b1 h1
    have kE : (-c) * (z1 - o0) ≤ o := by rw [Int.neg_mul, Int.mul_sub]; omega
    have x1 := lin_le (k := -c) (m := n - z1) (by omega) r.1 W1 kE (by have := C.z1_ge a1 h1 nh; omega)
    have x2 := lin_le (k := -c) (m := o0 - n) (s := v - 1 - rs u w v n) (by omega) (by omega) W1 kE (by have := C.o0_le a1 h1 nl; omega)
    rw [Int.neg_mul, Int.mul_sub] at x1 x2
    exact ⟨by omega, by omega⟩
  · have W1 := W.up _ _ a2 b2 h2
    have kE : c * (o1 - z0) ≤ o := by rw [Int.mul_sub]; omega
    have x1 := lin_le (k := c) (m := z0 - n) (by omega) r.1 W1 kE (by have := C.z0_le a2 h2 nl; omega)
    have x2 := lin_le (k := c) (m := n - o1) (s := v - 1 - rs u w v n) (by omega) (by omega) W1 kE (by have := C.o1_ge a2 h2 nh; omega)
    rw [Int.mul_sub] at x1 x2
    exact ⟨by omega, by omega⟩
theorem corn_dn {u w v l h z0 z1 o0 o1 e j a b : Int} (C : Corn u w v l h z0 z1 o0 o1) (W : Wide u v z0 z1 o0 o1) (a1 : 0 ≤ e) (b1 : e < v) (h1 : u * e = 1 + v * j) (la : l ≤ a) (bh : b ≤ h) : b - a ≤ (v + rs u w v b - rs u w v a) * (z1 - o0) := by
  have ra := rs_rng (u := u) (w := w) C.v1 a
  have rb := rs_rng (u := u) (w := w) C.v1 b
  have W1 := W.dn _ _ a1 b1 h1
  have x1 := C.z1_ge a1 h1 bh
  have x2 := C.o0_le a1 h1 la
  have x3 := Int.mul_le_mul_of_nonneg_left W1 (show 0 ≤ rs u w v b + (v - 1 - rs u w v a) by omega)
  rw [Int.add_mul] at x3
  have e1 : (v + rs u w v b - rs u w v a) * (z1 - o0) = (rs u w v b + (v - 1 - rs u w v a)) * (z1 - o0) + (z1 - o0) := by
    rw [show v + rs u w v b - rs u w v a = rs u w v b + (v - 1 - rs u w v a) + 1 by omega, Int.add_mul _ 1, Int.one_mul]
  omega
theorem corn_up {u w v l h z0 z1 o0 o1 e j a b : Int} (C : Corn u w v l h z0 z1 o0 o1) (W : Wide u v z0 z1 o0 o1) (a1 : 0 ≤ e) (b1 : e < v) (h1 : u * e = -1 + v * j) (la : l ≤ a) (bh : b ≤ h) : b - a ≤ (v + rs u w v a - rs u w v b) * (o1 - z0) := by
  have ra := rs_rng (u := u) (w := w) C.v1 a
  have rb := rs_rng (u := u) (w := w) C.v1 b
  have W1 := W.up _ _ a1 b1 h1
  have x1 := C.o1_ge a1 h1 bh
  have x2 := C.z0_le a1 h1 la
  have x3 := Int.mul_le_mul_of_nonneg_left W1 (show 0 ≤ rs u w v a + (v - 1 - rs u w v b) by omega)
  rw [Int.add_mul] at x3
  have e1 : (v + rs u w v a - rs u w v b) * (o1 - z0) = (rs u w v a + (v - 1 - rs u w v b)) * (o1 - z0) + (o1 - z0) := by
    rw [show v + rs u w v a - rs u w v b = rs u w v a + (v - 1 - rs u w v b) + 1 by omega, Int.add_mul _ 1, Int.one_mul]
  omega
end Dl
namespace Dl
open PySem L2
theorem vl_neg {x : Tr} (o1 : 1 ≤ x.2.2) (n : Int) : vl (negT x) n = - vl x n := by
  have h := (vl_iff (y := x) (n := n) o1).mp rfl
  refine (vl_iff (y := negT x) (n := n) (v := - vl x n) o1).mpr ?_
  show x.2.2 * -vl x n - -x.1 * n ≤ x.2.2 - 1 - x.2.1 ∧ x.2.2 - 1 - x.2.1 < x.2.2 * -vl x n - -x.1 * n + x.2.2
  rw [Int.mul_neg, Int.neg_mul]
  omega
theorem SB.cop {I : Iv} {u v : Int} (s : SB I u v) : gcdI u v = 1 := by
  have v1 := s.mem.v1
  obtain ⟨g, g0, e1, e2, f1, f2⟩ := fr_ok (p := u) v1
  have m : InI I (fr u v).1 (fr u v).2 := by
    have lo := s.mem.lo
    have hi := s.mem.hi
    refine ⟨f1, ?_, ?_⟩
    · have x1 : I.p1 * v = g * (I.p1 * (fr u v).2) := by conv => { lhs; rw [e2, Int.mul_left_comm] }
      have x2 : u * I.q1 = g * ((fr u v).1 * I.q1) := by conv => { lhs; rw [e1, Int.mul_assoc] }
      exact Int.lt_of_mul_lt_mul_left (show g * (I.p1 * (fr u v).2) < g * ((fr u v).1 * I.q1) by omega) (by omega)
    · have x1 : I.p2 * v = g * (I.p2 * (fr u v).2) := by conv => { lhs; rw [e2, Int.mul_left_comm] }
      have x2 : u * I.q2 = g * ((fr u v).1 * I.q2) := by conv => { lhs; rw [e1, Int.mul_assoc] }
      exact Int.lt_of_mul_lt_mul_left (show g * ((fr u v).1 * I.q2) < g * (I.p2 * (fr u v).2) by omega) (by omega)
  have d := s.den _ _ m
  have := fr_le (p := u) v1
  have e : (fr u v).2 = v := by omega
  have g1 : g = 1 := by
    rw [e] at e2
    have : g * v = 1 * v := by omega
    exact Int.eq_of_mul_eq_mul_right (by omega) this
  rw [g1, Int.one_mul] at e1 e2
  rw [← e1, ← e2] at f2
  exact f2
theorem Slo.slp {x : Tr} {l h u v : Int} {I : Iv} (a : Slo x l h I) (o1 : 1 ≤ x.2.2) (m : InI I u v) : Slp (vl x) l h u v := by
  intro c d c1 c2 d1 d2
  have q1 := a.lo.q1
  have q2 : 1 ≤ I.q2 := LowS.q1 a.hi
  have v1 := m.v1
  rcases Int.lt_trichotomy c d with g | g | g
  · have k := a.lo.le c d c1 g d2
    have k1 := Int.mul_le_mul_of_nonneg_left k (show 0 ≤ v by omega)
    have k2 := Int.mul_lt_mul_of_pos_right m.lo (show 0 < d - c by omega)
    have e1 : v * (I.q1 * (vl x d - vl x c - 1)) = I.q1 * (v * (vl x d - vl x c - 1)) := Int.mul_left_comm _ _ _
    have e2 : v * (I.p1 * (d - c)) = I.p1 * v * (d - c) := by rw [Int.mul_left_comm, Int.mul_assoc]
    have e3 : u * I.q1 * (d - c) = I.q1 * (u * (d - c)) := by rw [Int.mul_comm u, Int.mul_assoc]
    exact Int.lt_of_mul_lt_mul_left (show I.q1 * (v * (vl x d - vl x c - 1)) < I.q1 * (u * (d - c)) by omega) (by omega)
  · subst g
    rw [Int.sub_self, Int.sub_self, Int.mul_zero]
    omega
  · have k : I.q2 * (vl (negT x) c - vl (negT x) d - 1) ≤ -I.p2 * (c - d) := LowS.le a.hi d c d1 g c2
    rw [vl_neg o1, vl_neg o1] at k
    have k1 := Int.mul_le_mul_of_nonneg_left k (show 0 ≤ v by omega)
    have k2 := Int.mul_lt_mul_of_pos_right m.hi (show 0 < c - d by omega)
    have e1 : v * (I.q2 * (-vl x c - -vl x d - 1)) = I.q2 * (v * (vl x d - vl x c - 1)) := by
      rw [Int.mul_left_comm, show -vl x c - -vl x d - 1 = vl x d - vl x c - 1 by omega]
    have e2 : v * (-I.p2 * (c - d)) = -(I.p2 * v * (c - d)) := by rw [Int.neg_mul, Int.mul_neg, Int.mul_left_comm, Int.mul_assoc]
    have e3 : u * I.q2 * (c - d) = -(I.q2 * (u * (d - c))) := by rw [Int.mul_comm u, Int.mul_assoc, ← Int.mul_neg, ← Int.mul_neg, show -(d - c) = c - d by omega]
    exact Int.lt_of_mul_lt_mul_left (show I.q2 * (v * (vl x d - vl x c - 1)) < I.q2 * (u * (d - c)) by omega) (by omega)
theorem Slo.agr {x : Tr} {l h u v : Int} {I : Iv} (a : Slo x l h I) (o1 : 1 ≤ x.2.2) (hl : l ≤ h) (m : InI I u v) : Agr x (u, loW x l h u v, v) l h :=
  (agr_of_slp hl m.v1).mpr ⟨Int.le_refl _, slp_room hl (a.slp o1 m)⟩
theorem rs_vl {x : Tr} {l h u w v : Int} (g : Agr x (u, w, v) l h) {n : Int} (n1 : l ≤ n) (n2 : n ≤ h) : u * n + w = v * vl x n + rs u w v n := by
  rw [g n n1 n2]
  exact (Int.mul_ediv_add_emod (u * n + w) v).symm
section
variable {x : Tr} {l h u v w : Int} {I : Iv} (a : Slo x l h I) (s : SB I u v) (g : Agr x (u, w, v) l h)
include a s g
theorem slo_up {e j : Int} (e0 : 1 ≤ e) (ev : e < v) (he : u * e = 1 + v * j) : ∃ n, l ≤ n ∧ n + e ≤ h ∧ rs u w v n = v - 1 ∧ rs u w v (n + e) = 0 := by
  have v1 := s.mem.v1
  have q1 := a.lo.q1
  have hi : j * I.q2 < I.p2 * e := by
    have k := Int.mul_lt_mul_of_pos_right s.mem.hi (show 0 < e by omega)
    have e1 : u * I.q2 * e = I.q2 + v * (j * I.q2) := by rw [Int.mul_right_comm, he, Int.add_mul, Int.one_mul, Int.mul_assoc]
    have e2 : I.p2 * v * e = v * (I.p2 * e) := by rw [Int.mul_comm I.p2, Int.mul_assoc]
    have q2 : 1 ≤ I.q2 := LowS.q1 a.hi
    exact Int.lt_of_mul_lt_mul_left (show v * (j * I.q2) < v * (I.p2 * e) by omega) (by omega)
  have lo : j * I.q1 ≤ I.p1 * e := by
    rcases Int.lt_or_le (I.p1 * e) (j * I.q1) with c | c
    · have := s.den _ _ ⟨e0, c, hi⟩
      omega
    · exact c
  obtain ⟨c, d, c1, cd, d1, ee⟩ := a.lo.ex
  have k1 := Int.mul_le_mul_of_nonneg_right lo (show 0 ≤ d - c by omega)
  have e1 : I.p1 * e * (d - c) = I.q1 * (e * (vl x d - vl x c - 1)) := by rw [Int.mul_right_comm, ee, Int.mul_right_comm, Int.mul_assoc]
  have e2 : j * I.q1 * (d - c) = I.q1 * (j * (d - c)) := by rw [Int.mul_comm j, Int.mul_assoc]
  have k2 : j * (d - c) ≤ e * (vl x d - vl x c - 1) := Int.le_of_mul_le_mul_left (show I.q1 * (j * (d - c)) ≤ I.q1 * (e * (vl x d - vl x c - 1)) by omega) (by omega)
  have rc := rs_vl g (n := c) c1 (by omega)
  have rd := rs_vl g (n := d) (by omega) d1
  have k3 := Int.mul_le_mul_of_nonneg_left k2 (show 0 ≤ v by omega)
  have e3 : v * (e * (vl x d - vl x c - 1)) = e * (u * (d - c) - rs u w v d + rs u w v c - v) := by
    rw [Int.mul_left_comm]
    congr 1
    rw [Int.mul_sub, Int.mul_sub, Int.mul_one, Int.mul_sub]
    omega
  have e4 : e * (u * (d - c) - rs u w v d + rs u w v c - v) = (d - c) + v * (j * (d - c)) - e * (v + rs u w v d - rs u w v c) := by
    have : u * (d - c) - rs u w v d + rs u w v c - v = u * (d - c) - (v + rs u w v d - rs u w v c) := by omega
    rw [this, Int.mul_sub, ← Int.mul_assoc, Int.mul_comm e u, he, Int.add_mul, Int.one_mul, Int.mul_assoc]
  obtain ⟨n, n1, n2, n3⟩ := rs_up (u := u) (w := w) (a := c) (b := d) v1 (by omega) he (by omega)
  exact ⟨n, by omega, by omega, n3⟩
theorem slo_dn (o1 : 1 ≤ x.2.2) {e j : Int} (e0 : 1 ≤ e) (ev : e < v) (he : u * e = -1 + v * j) : ∃ n, l ≤ n ∧ n + e ≤ h ∧ rs u w v n = 0 ∧ rs u w v (n + e) = v - 1 := by
  have v1 := s.mem.v1
  have q2 : 1 ≤ I.q2 := LowS.q1 a.hi
  have lo : I.p1 * e < j * I.q1 := by
    have k := Int.mul_lt_mul_of_pos_right s.mem.lo (show 0 < e by omega)
    have e1 : u * I.q1 * e = -I.q1 + v * (j * I.q1) := by rw [Int.mul_right_comm, he, Int.add_mul, Int.neg_mul, Int.one_mul, Int.mul_assoc]
    have e2 : I.p1 * v * e = v * (I.p1 * e) := by rw [Int.mul_comm I.p1, Int.mul_assoc]
    have q1 := a.lo.q1
    exact Int.lt_of_mul_lt_mul_left (show v * (I.p1 * e) < v * (j * I.q1) by omega) (by omega)
  have hi : I.p2 * e ≤ j * I.q2 := by
    rcases Int.lt_or_le (j * I.q2) (I.p2 * e) with c | c
    · have := s.den _ _ ⟨e0, lo, c⟩
      omega
    · exact c
  obtain ⟨c, d, c1, cd, d1, ee⟩ := LowS.ex a.hi
  rw [vl_neg o1, vl_neg o1, Int.neg_mul, show -vl x d - -vl x c - 1 = -(vl x d - vl x c + 1) by omega, Int.mul_neg] at ee
  have ee2 : I.p2 * (d - c) = I.q2 * (vl x d - vl x c + 1) := by omega
  have k1 := Int.mul_le_mul_of_nonneg_right hi (show 0 ≤ d - c by omega)
  have e1 : I.p2 * e * (d - c) = I.q2 * (e * (vl x d - vl x c + 1)) := by rw [Int.mul_right_comm, ee2, Int.mul_right_comm, Int.mul_assoc]
  have e2 : j * I.q2 * (d - c) = I.q2 * (j * (d - c)) := by rw [Int.mul_comm j, Int.mul_assoc]
  have k2 : e * (vl x d - vl x c + 1) ≤ j * (d - c) := Int.le_of_mul_le_mul_left (show I.q2 * (e * (vl x d - vl x c + 1)) ≤ I.q2 * (j * (d - c)) by omega) (by omega)
  have rc := rs_vl g (n := c) c1 (by omega)
  have rd := rs_vl g (n := d) (by omega) d1
  have k3 := Int.mul_le_mul_of_nonneg_left k2 (show 0 ≤ v by omega)
  have e3 : v * (e * (vl x d - vl x c + 1)) = e * (u * (d - c) - rs u w v d + rs u w v c + v) := by
    rw [Int.mul_left_comm]
    congr 1
    rw [Int.mul_add, Int.mul_sub, Int.mul_one, Int.mul_sub]
    omega
  have e4 : e * (u * (d - c) - rs u w v d + rs u w v c + v) = -(d - c) + v * (j * (d - c)) + e * (v + rs u w v c - rs u w v d) := by
    have : u * (d - c) - rs u w v d + rs u w v c + v = u * (d - c) + (v + rs u w v c - rs u w v d) := by omega
    rw [this, Int.mul_add, ← Int.mul_assoc, Int.mul_comm e u, he, Int.add_mul, Int.neg_mul, Int.one_mul, Int.mul_assoc]
  obtain ⟨n, n1, n2, n3⟩ := rs_dn (u := u) (w := w) (a := c) (b := d) v1 (by omega) he (by omega)
  exact ⟨n, by omega, by omega, n3⟩
end
theorem gq_rs {x : Tr} {l h u v w : Int} (g : Agr x (u, w, v) l h) {n : Int} (n1 : l ≤ n) (n2 : n ≤ h) : gq x (-u) v n = w - rs u w v n ∧ gq x u (-v) n = rs u w v n - w := by
  have := rs_vl g n1 n2
  unfold gq
  rw [Int.neg_mul, Int.neg_mul]
  omega
theorem one_dvd_e {u v e j c : Int} (v2 : 2 ≤ v) (hc : c = 1 ∨ c = -1) (h : u * e = c + v * j) (e0 : 0 ≤ e) : 1 ≤ e := by
  rcases Int.lt_or_le 0 e with k | k
  · exact k
  · have : e = 0 := by omega
    rw [this, Int.mul_zero] at h
    rcases Int.lt_trichotomy j 0 with q | q | q
    · have := Int.mul_le_mul_of_nonneg_left (show j ≤ -1 by omega) (show 0 ≤ v by omega)
      omega
    · rw [q, Int.mul_zero] at h; omega
    · have := Int.mul_le_mul_of_nonneg_left (show 1 ≤ j by omega) (show 0 ≤ v by omega)
      omega
section
variable {x : Tr} {l h u v w : Int} {I : Iv} (a : Slo x l h I) (s : SB I u v) (g : Agr x (u, w, v) l h) (hl : l ≤ h)
include a s g hl
theorem slo_ex : (∃ n, l ≤ n ∧ n ≤ h ∧ rs u w v n = 0) ∧ ∃ n, l ≤ n ∧ n ≤ h ∧ rs u w v n = v - 1 := by
  have v1 := s.mem.v1
  obtain ⟨e1, a1, b1, j1, h1⟩ := solve v1 s.cop 1
  have R := fun n => rs_rng (u := u) (w := w) v1 n
  by_cases c : v = 1
  · refine ⟨⟨l, Int.le_refl _, hl, ?_⟩, l, Int.le_refl _, hl, ?_⟩
    · have := R l; omega
    · have := R l; omega
  · have p1 := one_dvd_e (by omega) (.inl rfl) h1 a1
    obtain ⟨n, m1, m2, m3, m4⟩ := slo_up a s g p1 b1 h1
    exact ⟨⟨n + e1, by omega, m2, m4⟩, n, m1, by omega, m3⟩
theorem slo_wide (o1 : 1 ≤ x.2.2) {z0 z1 n0 n1 : Int} (C : Corn u w v l h z0 z1 n0 n1) : Wide u v z0 z1 n0 n1 := by
  have R := fun n => rs_rng (u := u) (w := w) C.v1 n
  have v1 := C.v1
  refine ⟨fun e j c d he => ?_, fun e j c d he => ?_⟩
  · by_cases k : v = 1
    · have k1 := C.z l (Int.le_refl _) hl (by have := R l; omega)
      have k2 := C.z h hl (Int.le_refl _) (by have := R h; omega)
      have k3 := C.o l (Int.le_refl _) hl (by have := R l; omega)
      omega
    · obtain ⟨n, m1, m2, m3, m4⟩ := slo_up a s g (one_dvd_e (by omega) (.inl rfl) he c) d he
      have k1 := C.o n m1 (by omega) m3
      have k2 := C.z _ (by omega) m2 m4
      omega
  · by_cases k : v = 1
    · have k1 := C.z l (Int.le_refl _) hl (by have := R l; omega)
      have k2 := C.o h hl (Int.le_refl _) (by have := R h; omega)
      have k3 := C.o l (Int.le_refl _) hl (by have := R l; omega)
      omega
    · obtain ⟨n, m1, m2, m3, m4⟩ := slo_dn a s g o1 (one_dvd_e (by omega) (.inr rfl) he c) d he
      have k1 := C.z n m1 (by omega) m3
      have k2 := C.o _ (by omega) m2 m4
      omega
end
theorem lean_corn {x : Tr} {l h u v w z0 z1 n0 n1 : Int} {I : Iv} (a : Slo x l h I) (s : SB I u v) (g : Agr x (u, w, v) l h) (o1 : 1 ≤ x.2.2) (hl : l ≤ h)
    (Z0 : IsArg (gq x (-u) v) l h false z0) (Z1 : IsArg (gq x (-u) v) l h true z1) (N0 : IsArg (gq x u (-v)) l h false n0) (N1 : IsArg (gq x u (-v)) l h true n1) : Corn u w v l h z0 z1 n0 n1 ∧ Wide u v z0 z1 n0 n1 := by
  have v1 := s.mem.v1
  have R := fun n => rs_rng (u := u) (w := w) v1 n
  obtain ⟨⟨zn, zn1, zn2, zn3⟩, on, on1, on2, on3⟩ := slo_ex a s g hl
  have q : ∀ n, l ≤ n → n ≤ h → gq x (-u) v n = w - rs u w v n ∧ gq x u (-v) n = rs u w v n - w := fun n c d => gq_rs g c d
  have zz : ∀ z b, IsArg (gq x (-u) v) l h b z → rs u w v z = 0 := fun z b A => by
    have k := A.le zn zn1 zn2
    rw [(q _ zn1 zn2).1, (q _ A.l0 A.h0).1] at k
    have := R z; omega
  have oo : ∀ z b, IsArg (gq x u (-v)) l h b z → rs u w v z = v - 1 := fun z b A => by
    have k := A.le on on1 on2
    rw [(q _ on1 on2).2, (q _ A.l0 A.h0).2] at k
    have := R z; omega
  have C : Corn u w v l h z0 z1 n0 n1 := by
    refine ⟨v1, ⟨Z0.l0, Z0.h0⟩, ⟨Z1.l0, Z1.h0⟩, ⟨N0.l0, N0.h0⟩, ⟨N1.l0, N1.h0⟩, zz _ _ Z0, zz _ _ Z1, oo _ _ N0, oo _ _ N1, fun n c d e => ?_, fun n c d e => ?_⟩
    · have t0 := Z0.tie n c d (by rw [(q _ c d).1, (q _ Z0.l0 Z0.h0).1, zz _ _ Z0, e])
      have t1 := Z1.tie n c d (by rw [(q _ c d).1, (q _ Z1.l0 Z1.h0).1, zz _ _ Z1, e])
      simp only [Bool.false_eq_true, if_false, if_true] at t0 t1
      exact ⟨t0, t1⟩
    · have t0 := N0.tie n c d (by rw [(q _ c d).2, (q _ N0.l0 N0.h0).2, oo _ _ N0, e])
      have t1 := N1.tie n c d (by rw [(q _ c d).2, (q _ N1.l0 N1.h0).2, oo _ _ N1, e])
      simp only [Bool.false_eq_true, if_false, if_true] at t0 t1
      exact ⟨t0, t1⟩
  exact ⟨C, slo_wide a s g hl o1 C⟩
theorem at_iff {y : Tr} {u w v n f r : Int} (v1 : 1 ≤ v) (o1 : 1 ≤ y.2.2) (e : u * n + w = v * f + r) : f = vl y n ↔ -(r * y.2.2) ≤ (y.1 * v - u * y.2.2) * n + (y.2.1 * v - w * y.2.2) ∧ (y.1 * v - u * y.2.2) * n + (y.2.1 * v - w * y.2.2) < (v - r) * y.2.2 := by
  have k := vl_iff (y := y) (n := n) (v := f) o1
  have e1 : (y.1 * v - u * y.2.2) * n + (y.2.1 * v - w * y.2.2) = v * (y.1 * n + y.2.1) - (u * n + w) * y.2.2 := by
    rw [Int.sub_mul, Int.add_mul, Int.mul_add, Int.mul_right_comm u, Int.mul_right_comm y.1, Int.mul_comm (y.1 * n), Int.mul_comm y.2.1]
    omega
  have e2 : (u * n + w) * y.2.2 = v * (y.2.2 * f) + r * y.2.2 := by rw [e, Int.add_mul, Int.mul_assoc, Int.mul_comm f]
  have e3 : (v - r) * y.2.2 = v * y.2.2 - r * y.2.2 := Int.sub_mul _ _ _
  rw [e1, e2, e3]
  have e4 : v * (y.1 * n + y.2.1) = v * (y.2.1 - (y.2.2 * f - y.1 * n)) + v * (y.2.2 * f) := by rw [← Int.mul_add]; congr 1; omega
  constructor
  · intro q
    have k2 := k.mp q.symm
    have p1 := Int.mul_nonneg (show 0 ≤ v by omega) (show 0 ≤ y.2.1 - (y.2.2 * f - y.1 * n) by omega)
    have p2 := Int.mul_lt_mul_of_pos_left (show y.2.1 - (y.2.2 * f - y.1 * n) < y.2.2 by omega) (show 0 < v by omega)
    omega
  · intro q
    have p1 : v * 0 ≤ v * (y.2.1 - (y.2.2 * f - y.1 * n)) := by rw [Int.mul_zero]; omega
    have p2 : v * (y.2.1 - (y.2.2 * f - y.1 * n)) < v * y.2.2 := by omega
    have p3 := Int.le_of_mul_le_mul_left p1 (by omega)
    have p4 := Int.lt_of_mul_lt_mul_left p2 (by omega)
    exact (k.mpr ⟨by omega, by omega⟩).symm
theorem tests_agr {x y : Tr} {l h u v w z0 z1 n0 n1 : Int} (g : Agr x (u, w, v) l h) (cp : gcdI u v = 1) (C : Corn u w v l h z0 z1 n0 n1) (W : Wide u v z0 z1 n0 n1) (o1 : 1 ≤ y.2.2)
    (t0 : vl x z0 = vl y z0) (t1 : vl x z1 = vl y z1) (t2 : vl x n0 = vl y n0) (t3 : vl x n1 = vl y n1) : Agr x y l h := by
  have v1 := C.v1
  obtain ⟨e1, a1, b1, j1, h1⟩ := solve v1 cp 1
  obtain ⟨e2, a2, b2, j2, h2⟩ := solve v1 cp (-1)
  have p0 := (at_iff (y := y) v1 o1 (rs_vl g C.i0.1 C.i0.2)).mp t0
  have p1 := (at_iff (y := y) v1 o1 (rs_vl g C.i1.1 C.i1.2)).mp t1
  have p2 := (at_iff (y := y) v1 o1 (rs_vl g C.k0.1 C.k0.2)).mp t2
  have p3 := (at_iff (y := y) v1 o1 (rs_vl g C.k1.1 C.k1.2)).mp t3
  rw [C.r0, Int.zero_mul] at p0
  rw [C.r1, Int.zero_mul] at p1
  rw [C.s0, show v - (v - 1) = 1 by omega, Int.one_mul] at p2
  rw [C.s1, show v - (v - 1) = 1 by omega, Int.one_mul] at p3
  intro n nl nh
  exact (at_iff (y := y) v1 o1 (rs_vl g nl nh)).mpr (corn_line C W o1 a1 b1 h1 a2 b2 h2 (by omega) (by omega) p2.2 p3.2 nl nh)
end Dl
namespace Dl
open PySem L2
theorem rs_same {u w v n m : Int} (v1 : 1 ≤ v) (cp : gcdI u v = 1) (h : rs u w v n = rs u w v m) : ∃ k, n = m + v * k := by
  have r := rs_rng (u := u) (w := w) v1 m
  obtain ⟨i, hi⟩ := (rs_iff r.1 r.2).mp h
  obtain ⟨j, hj⟩ := (rs_iff (u := u) (w := w) (v := v) (n := m) r.1 r.2).mp rfl
  have e : u * (n - m) = v * (i - j) := by rw [Int.mul_sub, Int.mul_sub]; omega
  obtain ⟨k, hk⟩ := cop_dvd cp ⟨_, e⟩
  exact ⟨k, by omega⟩
structure Frst (u w v l c n : Int) : Prop where
  lo : l ≤ n
  hi : n < l + v
  r : rs u w v n = c
theorem Frst.le {u w v l c n m : Int} (v1 : 1 ≤ v) (cp : gcdI u v = 1) (F : Frst u w v l c n) (lm : l ≤ m) (h : rs u w v m = c) : n ≤ m := by
  obtain ⟨k, hk⟩ := rs_same v1 cp (h.trans F.r.symm)
  have := F.hi
  rcases Int.lt_or_le k 0 with q | q
  · have := Int.mul_le_mul_of_nonneg_left (show k ≤ -1 by omega) (show 0 ≤ v by omega)
    omega
  · have := Int.mul_nonneg (show 0 ≤ v by omega) q
    omega
def lst (v h z : Int) : Int := z + (h - z) / v * v
end Dl
namespace Dl
open PySem L2
structure Lean (x : Tr) (l h u v z0 z1 o0 o1 : Int) : Prop where
  z0 : IsArg (gq x (-u) v) l h false z0
  z1 : IsArg (gq x (-u) v) l h true z1
  o0 : IsArg (gq x u (-v)) l h false o0
  o1 : IsArg (gq x u (-v)) l h true o1
structure Tests (x : Tr) (l h : Int) (ns : List Int) : Prop where
  asc : ns.Pairwise (· < ·)
  of : ∃ (I : Iv) (u v z0 z1 o0 o1 : Int), Slo x l h I ∧ SB I u v ∧ Lean x l h u v z0 z1 o0 o1 ∧ ∀ k : Int, k ∈ ns ↔ k ∈ [z0, z1, o0, o1]
theorem Tests.rng {x : Tr} {l h : Int} {ns : List Int} (t : Tests x l h ns) {n : Int} (hn : n ∈ ns) : l ≤ n ∧ n ≤ h := by
  obtain ⟨I, u, v, z0, z1, o0, o1, _, _, L, e⟩ := t.of
  have := (e n).mp hn
  simp at this
  rcases this with rfl | rfl | rfl | rfl
  · exact ⟨L.z0.l0, L.z0.h0⟩
  · exact ⟨L.z1.l0, L.z1.h0⟩
  · exact ⟨L.o0.l0, L.o0.h0⟩
  · exact ⟨L.o1.l0, L.o1.h0⟩
theorem asc_len : ∀ {ns : List Int} {L : List Int}, ns.Pairwise (· < ·) → (∀ k ∈ ns, k ∈ L) → ns.length ≤ L.length
  | [], _, _, _ => Nat.zero_le _
  | n :: r, L, pw, h => by
    have hn := h n (by simp)
    have p := List.pairwise_cons.mp pw
    have ih := asc_len (ns := r) (L := L.erase n) p.2 fun k hk => (List.mem_erase_of_ne (by have := p.1 k hk; omega)).mpr (h k (by simp [hk]))
    rw [List.length_erase_of_mem hn] at ih
    have := List.length_pos_of_mem hn
    simp
    omega
theorem Tests.len {x : Tr} {l h : Int} {ns : List Int} (t : Tests x l h ns) : ns.length ≤ 4 := by
  obtain ⟨I, u, v, z0, z1, o0, o1, _, _, L, e⟩ := t.of
  exact asc_len t.asc fun k hk => (e k).mp hk
theorem asc_eq : ∀ {ns ms : List Int}, ns.Pairwise (· < ·) → ms.Pairwise (· < ·) → (∀ k, k ∈ ns ↔ k ∈ ms) → ns = ms
  | [], [], _, _, _ => rfl
  | [], m :: _, _, _, h => by have := (h m).mpr (by simp); simp at this
  | n :: _, [], _, _, h => by have := (h n).mp (by simp); simp at this
  | n :: r, m :: q, pn, pm, h => by
    have p := List.pairwise_cons.mp pn
    have o := List.pairwise_cons.mp pm
    have e : n = m := by
      have h1 := (h n).mp (by simp)
      have h2 := (h m).mpr (by simp)
      simp only [List.mem_cons] at h1 h2
      rcases h1 with h1 | h1
      · exact h1
      · rcases h2 with h2 | h2
        · exact h2.symm
        · have := p.1 m h2
          have := o.1 n h1
          omega
    subst e
    rw [asc_eq p.2 o.2 fun k => ?_]
    constructor
    · intro hk
      have := (h k).mp (by simp [hk])
      simp only [List.mem_cons] at this
      rcases this with c | c
      · subst c; exact absurd (p.1 k hk) (by omega)
      · exact c
    · intro hk
      have := (h k).mpr (by simp [hk])
      simp only [List.mem_cons] at this
      rcases this with c | c
      · subst c; exact absurd (o.1 k hk) (by omega)
      · exact c
theorem LowS.congr {f g : Int → Int} {l h p q : Int} (e : ∀ n, l ≤ n → n ≤ h → f n = g n) (a : LowS f l h p q) : LowS g l h p q := by
  refine ⟨a.q1, a.cop, ?_, fun c d c1 cd d1 => ?_⟩
  · obtain ⟨c, d, c1, cd, d1, ee⟩ := a.ex
    exact ⟨c, d, c1, cd, d1, by rw [← e c c1 (by omega), ← e d (by omega) d1]; exact ee⟩
  · rw [← e c c1 (by omega), ← e d (by omega) d1]
    exact a.le c d c1 cd d1
theorem Slo.congr {x y : Tr} {l h : Int} {I : Iv} (x1 : 1 ≤ x.2.2) (y1 : 1 ≤ y.2.2) (g : Agr x y l h) (a : Slo x l h I) : Slo y l h I :=
  ⟨a.lo.congr g, LowS.congr (fun n h1 h2 => by rw [vl_neg x1, vl_neg y1, g n h1 h2]) a.hi⟩
theorem IsArg.congr {f g : Int → Int} {l h n : Int} {b : Bool} (e : ∀ n, l ≤ n → n ≤ h → f n = g n) (a : IsArg f l h b n) : IsArg g l h b n :=
  ⟨a.l0, a.h0, fun m h1 h2 => by rw [← e m h1 h2, ← e n a.l0 a.h0]; exact a.le m h1 h2, fun m h1 h2 q => a.tie m h1 h2 (by rw [e m h1 h2, e n a.l0 a.h0]; exact q)⟩
theorem gq_congr {x y : Tr} {l h s w : Int} (g : Agr x y l h) : ∀ n, l ≤ n → n ≤ h → gq x s w n = gq y s w n := fun n h1 h2 => by unfold gq; rw [g n h1 h2]
theorem Lean.congr {x y : Tr} {l h u v z0 z1 o0 o1 : Int} (g : Agr x y l h) (a : Lean x l h u v z0 z1 o0 o1) : Lean y l h u v z0 z1 o0 o1 :=
  ⟨a.z0.congr (gq_congr g), a.z1.congr (gq_congr g), a.o0.congr (gq_congr g), a.o1.congr (gq_congr g)⟩
theorem Tests.congr {x y : Tr} {l h : Int} {ns : List Int} (x1 : 1 ≤ x.2.2) (y1 : 1 ≤ y.2.2) (g : Agr x y l h) (t : Tests x l h ns) : Tests y l h ns := by
  obtain ⟨I, u, v, z0, z1, o0, o1, a, b, L, e⟩ := t.of
  exact ⟨t.asc, I, u, v, z0, z1, o0, o1, a.congr x1 y1 g, b, L.congr g, e⟩
theorem Lean.corn {x : Tr} {l h u v w z0 z1 n0 n1 : Int} {I : Iv} (L : Lean x l h u v z0 z1 n0 n1) (a : Slo x l h I) (s : SB I u v) (g : Agr x (u, w, v) l h) (o1 : 1 ≤ x.2.2) (hl : l ≤ h) : Corn u w v l h z0 z1 n0 n1 ∧ Wide u v z0 z1 n0 n1 :=
  lean_corn a s g o1 hl L.z0 L.z1 L.o0 L.o1
theorem Tests.uniq {x : Tr} {l h : Int} {ns ms : List Int} (t : Tests x l h ns) (r : Tests x l h ms) : ns = ms := by
  obtain ⟨I, u, v, z0, z1, o0, o1, a, b, L, e⟩ := t.of
  obtain ⟨I', u', v', z0', z1', o0', o1', a', b', L', e'⟩ := r.of
  obtain rfl := a.uniq a'
  obtain ⟨rfl, rfl⟩ := b.uniq b'
  obtain rfl := L.z0.uniq L'.z0
  obtain rfl := L.z1.uniq L'.z1
  obtain rfl := L.o0.uniq L'.o0
  obtain rfl := L.o1.uniq L'.o1
  exact asc_eq t.asc r.asc fun k => by rw [e k, e' k]
theorem Tests.corn {x : Tr} {l h u v w : Int} {I : Iv} {ns : List Int} (t : Tests x l h ns) (a : Slo x l h I) (s : SB I u v) (g : Agr x (u, w, v) l h) (o1 : 1 ≤ x.2.2) (hl : l ≤ h) : ∃ z0 z1 n0 n1, Corn u w v l h z0 z1 n0 n1 ∧ Wide u v z0 z1 n0 n1 ∧ ∀ k : Int, k ∈ ns ↔ k ∈ [z0, z1, n0, n1] := by
  obtain ⟨I', u', v', z0, z1, n0, n1, a', b', L, e⟩ := t.of
  obtain rfl := a.uniq a'
  obtain ⟨rfl, rfl⟩ := s.uniq b'
  obtain ⟨C, W⟩ := L.corn a s g o1 hl
  exact ⟨z0, z1, n0, n1, C, W, e⟩
theorem Tests.agr {x y : Tr} {l h : Int} {ns : List Int} (t : Tests x l h ns) (x1 : 1 ≤ x.2.2) (y1 : 1 ≤ y.2.2) (hl : l ≤ h) (q : ∀ n ∈ ns, vl x n = vl y n) : Agr x y l h := by
  obtain ⟨I, u, v, z0, z1, n0, n1, a, s, L, e⟩ := t.of
  have g := a.agr x1 hl s.mem
  obtain ⟨C, W⟩ := L.corn a s g x1 hl
  exact tests_agr g s.cop C W y1 (q _ ((e _).mpr (by simp))) (q _ ((e _).mpr (by simp))) (q _ ((e _).mpr (by simp))) (q _ ((e _).mpr (by simp)))
end Dl
namespace Dl
open PySem L2
theorem inI_iff {x : Tr} {l h u v : Int} {I : Iv} (sI : Slo x l h I) (x1 : 1 ≤ x.2.2) (v1 : 1 ≤ v) : InI I u v ↔ Slp (vl x) l h u v := by
  constructor
  · exact fun m => sI.slp x1 m
  · intro s
    have h1 := sI.lo.toP.lt s
    have s2 : Slp (vl (negT x)) l h (-u) v := fun a b a1 a2 c1 c2 => by
      have := s b a c1 c2 a1 a2
      rw [vl_neg x1, vl_neg x1, show -vl x b - -vl x a - 1 = vl x a - vl x b - 1 by omega, Int.neg_mul]
      rw [show a - b = -(b - a) by omega, Int.mul_neg] at this
      omega
    have h2 := LowP.lt (LowS.toP sI.hi) s2
    rw [Int.neg_mul, Int.neg_mul] at h2
    exact ⟨v1, h1, by omega⟩
end Dl
namespace Dl
open PySem L2
end Dl
namespace Dl
open PySem L2
section
variable {x : Tr} {l h u v w z0 z1 n0 n1 : Int} (hl : l < h) (g : Agr x (u, w, v) l h) (cp : gcdI u v = 1) (C : Corn u w v l h z0 z1 n0 n1) (W : Wide u v z0 z1 n0 n1)
include hl cp C W
theorem wide_pos : 1 ≤ z1 - n0 ∧ 1 ≤ n1 - z0 := by
  have v1 := C.v1
  obtain ⟨e1, a1, b1, j1, h1⟩ := solve v1 cp 1
  obtain ⟨e2, a2, b2, j2, h2⟩ := solve v1 cp (-1)
  have R := fun n => rs_rng (u := u) (w := w) v1 n
  by_cases c : v = 1
  · have k1 := C.z l (by omega) (by omega) (by have := R l; omega)
    have k2 := C.z h (by omega) (by omega) (by have := R h; omega)
    have k3 := C.o l (by omega) (by omega) (by have := R l; omega)
    have k4 := C.o h (by omega) (by omega) (by have := R h; omega)
    omega
  · have p1 := one_dvd_e (by omega) (.inl rfl) h1 a1
    have p2 := one_dvd_e (by omega) (.inr rfl) h2 a2
    have := W.dn _ _ a1 b1 h1
    have := W.up _ _ a2 b2 h2
    omega
include g
theorem low_corn : LowS (vl x) l h (fr (u * (z1 - n0) - 1) (v * (z1 - n0))).1 (fr (u * (z1 - n0) - 1) (v * (z1 - n0))).2 := by
  have v1 := C.v1
  obtain ⟨wp, _⟩ := wide_pos hl cp C W
  obtain ⟨e1, a1, b1, j1, h1⟩ := solve v1 cp 1
  have hq : 1 ≤ v * (z1 - n0) := by have := Int.mul_le_mul v1 wp (by omega) (by omega); omega
  obtain ⟨gg, g0, c1, c2, f1, f2⟩ := fr_ok (p := u * (z1 - n0) - 1) hq
  have cr := fr_cross (p := u * (z1 - n0) - 1) hq
  generalize hP : (fr (u * (z1 - n0) - 1) (v * (z1 - n0))).1 = P at *
  generalize hQ : (fr (u * (z1 - n0) - 1) (v * (z1 - n0))).2 = Q at *
  have rz := rs_vl g C.i1.1 C.i1.2
  have ro := rs_vl g C.k0.1 C.k0.2
  rw [C.r1] at rz
  rw [C.s0] at ro
  have ee : v * (vl x z1 - vl x n0 - 1) = u * (z1 - n0) - 1 := by rw [Int.mul_sub, Int.mul_sub, Int.mul_one, Int.mul_sub]; omega
  refine ⟨f1, f2, ⟨n0, z1, C.k0.1, by omega, C.i1.2, ?_⟩, fun a b la ab bh => ?_⟩
  · rw [← ee, Int.mul_assoc, Int.mul_left_comm] at cr
    have := Int.eq_of_mul_eq_mul_left (show v ≠ 0 by omega) cr
    rw [this, Int.mul_comm]
  · have ra := rs_vl g la (show a ≤ h by omega)
    have rb := rs_vl g (show l ≤ b by omega) bh
    have k := corn_dn C W a1 b1 h1 la bh
    -- v (fb - fa - 1) = u k - s
    have e2 : v * (vl x b - vl x a - 1) = u * (b - a) - (v + rs u w v b - rs u w v a) := by rw [Int.mul_sub, Int.mul_sub, Int.mul_one, Int.mul_sub]; omega
    generalize hs : v + rs u w v b - rs u w v a = s at *
    generalize hd : z1 - n0 = d at *
    generalize hF : vl x b - vl x a - 1 = F at *
    generalize hk : b - a = kk at *
    -- P v d = (u d - 1) Q ; want Q F <= P kk
    have s1 := Int.mul_le_mul_of_nonneg_left k (show 0 ≤ Q by omega)
    have t1 : v * d * (Q * F) = Q * (d * (u * kk - s)) := by rw [← e2, Int.mul_comm v d, Int.mul_assoc, Int.mul_left_comm v Q F, Int.mul_left_comm d Q]
    have t2 : v * d * (P * kk) = Q * ((u * d - 1) * kk) := by rw [← Int.mul_assoc, Int.mul_comm (v * d) P, cr, Int.mul_comm _ Q, Int.mul_assoc]
    have t3 : Q * (d * (u * kk - s)) = Q * (u * d * kk) - Q * (s * d) := by rw [← Int.mul_sub]; congr 1; rw [Int.mul_sub, Int.mul_comm d s, ← Int.mul_assoc, Int.mul_comm d u]
    have t4 : Q * ((u * d - 1) * kk) = Q * (u * d * kk) - Q * kk := by rw [← Int.mul_sub]; congr 1; rw [Int.sub_mul, Int.one_mul]
    exact Int.le_of_mul_le_mul_left (show v * d * (Q * F) ≤ v * d * (P * kk) by omega) (by omega)
theorem hi_corn (o1 : 1 ≤ x.2.2) : HiS x l h (fr (u * (n1 - z0) + 1) (v * (n1 - z0))).1 (fr (u * (n1 - z0) + 1) (v * (n1 - z0))).2 := by
  have v1 := C.v1
  obtain ⟨_, wp⟩ := wide_pos hl cp C W
  obtain ⟨e1, a1, b1, j1, h1⟩ := solve v1 cp (-1)
  have hq : 1 ≤ v * (n1 - z0) := by have := Int.mul_le_mul v1 wp (by omega) (by omega); omega
  obtain ⟨gg, g0, c1, c2, f1, f2⟩ := fr_ok (p := u * (n1 - z0) + 1) hq
  have cr := fr_cross (p := u * (n1 - z0) + 1) hq
  unfold HiS
  generalize hP : (fr (u * (n1 - z0) + 1) (v * (n1 - z0))).1 = P at *
  generalize hQ : (fr (u * (n1 - z0) + 1) (v * (n1 - z0))).2 = Q at *
  have rz := rs_vl g C.k1.1 C.k1.2
  have ro := rs_vl g C.i0.1 C.i0.2
  rw [C.s1] at rz
  rw [C.r0] at ro
  have ee : v * (vl x n1 - vl x z0 + 1) = u * (n1 - z0) + 1 := by rw [Int.mul_add, Int.mul_sub, Int.mul_one, Int.mul_sub]; omega
  refine ⟨f1, by rw [gcdI_neg]; exact f2, ⟨z0, n1, C.i0.1, by omega, C.k1.2, ?_⟩, fun a b la ab bh => ?_⟩
  · rw [vl_neg o1, vl_neg o1, show -vl x n1 - -vl x z0 - 1 = -(vl x n1 - vl x z0 + 1) by omega, Int.mul_neg, Int.neg_mul]
    rw [← ee, Int.mul_assoc, Int.mul_left_comm] at cr
    have := Int.eq_of_mul_eq_mul_left (show v ≠ 0 by omega) cr
    rw [this, Int.mul_comm]
  · rw [vl_neg o1, vl_neg o1, show -vl x b - -vl x a - 1 = -(vl x b - vl x a + 1) by omega, Int.mul_neg, Int.neg_mul]
    have ra := rs_vl g la (show a ≤ h by omega)
    have rb := rs_vl g (show l ≤ b by omega) bh
    have k := corn_up C W a1 b1 h1 la bh
    have e2 : v * (vl x b - vl x a + 1) = u * (b - a) + (v + rs u w v a - rs u w v b) := by rw [Int.mul_add, Int.mul_sub, Int.mul_one, Int.mul_sub]; omega
    generalize hs : v + rs u w v a - rs u w v b = s at *
    generalize hd : n1 - z0 = d at *
    generalize hF : vl x b - vl x a + 1 = F at *
    generalize hk : b - a = kk at *
    have s1 := Int.mul_le_mul_of_nonneg_left k (show 0 ≤ Q by omega)
    have t1 : v * d * (Q * F) = Q * (d * (u * kk + s)) := by rw [← e2, Int.mul_comm v d, Int.mul_assoc, Int.mul_left_comm v Q F, Int.mul_left_comm d Q]
    have t2 : v * d * (P * kk) = Q * ((u * d + 1) * kk) := by rw [← Int.mul_assoc, Int.mul_comm (v * d) P, cr, Int.mul_comm _ Q, Int.mul_assoc]
    have t3 : Q * (d * (u * kk + s)) = Q * (u * d * kk) + Q * (s * d) := by rw [← Int.mul_add]; congr 1; rw [Int.mul_add, Int.mul_comm d s, ← Int.mul_assoc, Int.mul_comm d u]
    have t4 : Q * ((u * d + 1) * kk) = Q * (u * d * kk) + Q * kk := by rw [← Int.mul_add]; congr 1; rw [Int.add_mul, Int.one_mul]
    have := Int.le_of_mul_le_mul_left (show v * d * (P * kk) ≤ v * d * (Q * F) by omega) (by omega)
    omega
end
end Dl
namespace Dl
open PySem L2
theorem Corn.sub {u w v l h z0 z1 n0 n1 a b : Int} (C : Corn u w v l h z0 z1 n0 n1) (la : l ≤ a) (bh : b ≤ h) (hz : a ≤ z0 ∧ z1 ≤ b) (hn : a ≤ n0 ∧ n1 ≤ b) : Corn u w v a b z0 z1 n0 n1 := by
  have k1 := C.z z0 C.i0.1 C.i0.2 C.r0
  have k2 := C.o n0 C.k0.1 C.k0.2 C.s0
  refine ⟨C.v1, ⟨by omega, by omega⟩, ⟨by omega, by omega⟩, ⟨by omega, by omega⟩, ⟨by omega, by omega⟩, C.r0, C.r1, C.s0, C.s1, fun n h1 h2 => C.z n (by omega) (by omega), fun n h1 h2 => C.o n (by omega) (by omega)⟩
section
variable {x : Tr} {l h u v w z0 z1 n0 n1 : Int} {I : Iv} (hl : l < h) (x1 : 1 ≤ x.2.2) (sI : Slo x l h I) (s : SB I u v) (g : Agr x (u, w, v) l h) (C : Corn u w v l h z0 z1 n0 n1) (W : Wide u v z0 z1 n0 n1)
include hl x1 sI s g C W
theorem slo_corn : I = ⟨(fr (u * (z1 - n0) - 1) (v * (z1 - n0))).1, (fr (u * (z1 - n0) - 1) (v * (z1 - n0))).2, (fr (u * (n1 - z0) + 1) (v * (n1 - z0))).1, (fr (u * (n1 - z0) + 1) (v * (n1 - z0))).2⟩ :=
  sI.uniq ⟨low_corn hl g s.cop C W, hi_corn hl g s.cop C W x1⟩
theorem slo_sub {a b : Int} (ab : a < b) (la : l ≤ a) (bh : b ≤ h) (hz : a ≤ z0 ∧ z1 ≤ b) (hn : a ≤ n0 ∧ n1 ≤ b) : Slo x a b I := by
  have C2 := C.sub la bh hz hn
  have g2 : Agr x (u, w, v) a b := g.sub la bh
  rw [slo_corn hl x1 sI s g C W]
  exact ⟨low_corn ab g2 s.cop C2 W, hi_corn ab g2 s.cop C2 W x1⟩
end
theorem Tests.sub {x : Tr} {l h a b : Int} {ts ms : List Int} (hl : l < h) (x1 : 1 ≤ x.2.2) (t : Tests x l h ts) (r : Tests x a b ms) (ab : a < b) (la : l ≤ a) (bh : b ≤ h) (hin : ∀ n ∈ ts, a ≤ n ∧ n ≤ b) : ms = ts := by
  obtain ⟨I, u, v, z0, z1, n0, n1, sI, s, L, e⟩ := t.of
  have g := sI.agr x1 (by omega) s.mem
  obtain ⟨C, W⟩ := L.corn sI s g x1 (by omega)
  have i0 := hin z0 ((e _).mpr (by simp))
  have i1 := hin z1 ((e _).mpr (by simp))
  have i2 := hin n0 ((e _).mpr (by simp))
  have i3 := hin n1 ((e _).mpr (by simp))
  have sI2 := slo_sub hl x1 sI s g C W ab la bh ⟨i0.1, i1.2⟩ ⟨i2.1, i3.2⟩
  obtain ⟨y0, y1, m0, m1, C2, W2, e2⟩ := r.corn sI2 s (g.sub la bh) x1 (by omega)
  obtain ⟨rfl, rfl, rfl, rfl⟩ := (C.sub la bh ⟨i0.1, i1.2⟩ ⟨i2.1, i3.2⟩).uniq C2
  exact asc_eq r.asc t.asc fun k => by rw [e k, e2 k]
theorem Slo.sub {x : Tr} {l h a b : Int} {I J : Iv} {ts : List Int} (hl : l < h) (x1 : 1 ≤ x.2.2) (t : Tests x l h ts) (sI : Slo x l h I) (sJ : Slo x a b J) (ab : a < b) (la : l ≤ a) (bh : b ≤ h) (hin : ∀ n ∈ ts, a ≤ n ∧ n ≤ b) : J = I := by
  obtain ⟨I', u, v, z0, z1, n0, n1, sI', s, L, e⟩ := t.of
  obtain rfl := sI.uniq sI'
  have g := sI.agr x1 (by omega) s.mem
  obtain ⟨C, W⟩ := L.corn sI s g x1 (by omega)
  have i0 := hin z0 ((e _).mpr (by simp))
  have i1 := hin z1 ((e _).mpr (by simp))
  have i2 := hin n0 ((e _).mpr (by simp))
  have i3 := hin n1 ((e _).mpr (by simp))
  exact sJ.uniq (slo_sub hl x1 sI s g C W ab la bh ⟨i0.1, i1.2⟩ ⟨i2.1, i3.2⟩)
end Dl
namespace Dl
open PySem L2
theorem pow_sm {b : Int} (b0 : 0 ≤ b) (b1 : b ≤ 36) : ∀ k : Nat, Sm (6 * k + 1) (b ^ k)
  | 0 => by show Sm 1 (b ^ 0); rw [Int.pow_zero]; decide
  | k + 1 => by
    rw [Int.pow_succ]
    have h : Sm 6 b := sm_of (by omega) (by omega)
    exact (Sm.mul (pow_sm b0 b1 k) h).mono (by omega)
theorem pow_one_le {b : Int} (b1 : 1 ≤ b) : ∀ k : Nat, 1 ≤ b ^ k
  | 0 => by rw [Int.pow_zero]; omega
  | k + 1 => by
    rw [Int.pow_succ]
    have := Int.mul_le_mul (pow_one_le b1 k) b1 (by omega) (by have := pow_one_le b1 k; omega)
    omega
theorem pow_sq (b : Int) (k : Nat) : (b * b) ^ k = b ^ (2 * k) := by
  induction k with
  | zero => simp
  | succ k ih => rw [Int.pow_succ, ih, show 2 * (k + 1) = 2 * k + 1 + 1 by omega, Int.pow_succ, Int.pow_succ, Int.mul_assoc]
theorem pow_half {F B : Int} (E : Nat) : (if E % 2 = 1 then F * B else F) * (B * B) ^ (E / 2) = F * B ^ E := by
  rw [pow_sq]
  by_cases h : E % 2 = 1
  · rw [if_pos h, Int.mul_assoc, Int.mul_comm B, ← Int.pow_succ, show Nat.succ (2 * (E / 2)) = E by omega]
  · rw [if_neg h, show 2 * (E / 2) = E by omega]
theorem pow_bound {F B : Int} {E : Nat} (F1 : 1 ≤ F) (B1 : 1 ≤ B) : F ≤ F * B ^ E ∧ (0 < E → B ≤ F * B ^ E) := by
  have p := pow_one_le B1 E
  constructor
  · have := Int.mul_le_mul_of_nonneg_left p (show 0 ≤ F by omega)
    omega
  · intro h
    obtain ⟨e, rfl⟩ : ∃ e, E = e + 1 := ⟨E - 1, by omega⟩
    have q := pow_one_le B1 e
    rw [Int.pow_succ]
    have h1 := Int.mul_le_mul_of_nonneg_right q (show 0 ≤ B by omega)
    have h2 := Int.mul_le_mul_of_nonneg_right F1 (show 0 ≤ B ^ e * B by have := Int.mul_nonneg (show 0 ≤ B ^ e by omega) (show 0 ≤ B by omega); omega)
    omega
def lwM (p q s : Int) : Int := p * s / q + 1
def moM (p q s : Int) : Int := -(-p * s / q) - 1
theorem lwM_iff {p q s m : Int} (q1 : 1 ≤ q) : lwM p q s ≤ m ↔ p * s < m * q := by
  unfold lwM
  have a := Int.ediv_lt_iff_lt_mul (a := p * s) (b := m) (c := q) (by omega)
  omega
theorem moM_iff {p q s m : Int} (q1 : 1 ≤ q) : m ≤ moM p q s ↔ m * q < p * s := by
  unfold moM
  have a := Int.ediv_lt_iff_lt_mul (a := -p * s) (b := -m) (c := q) (by omega)
  rw [Int.neg_mul, Int.neg_mul] at a
  rw [Int.neg_mul]
  omega
theorem in_iff {I : Iv} {m s : Int} (ok : IOk I) (s1 : 1 ≤ s) : InI I m s ↔ lwM I.p1 I.q1 s ≤ m ∧ m ≤ moM I.p2 I.q2 s := by
  rw [lwM_iff ok.q1, moM_iff ok.q2]
  exact ⟨fun h => ⟨h.lo, h.hi⟩, fun h => ⟨s1, h.1, h.2⟩⟩
theorem in_ex {I : Iv} {s : Int} (ok : IOk I) (h : I.q1 * I.q2 < s) : ∃ m, InI I m s := by
  have q1 := ok.q1
  have q2 := ok.q2
  have lt := ok.lt
  have qq : 1 ≤ I.q1 * I.q2 := by have := Int.mul_le_mul q1 q2 (by omega) (by omega); omega
  refine ⟨lwM I.p1 I.q1 s, (in_iff ok (by omega)).mpr ⟨Int.le_refl _, (moM_iff q2).mpr ?_⟩⟩
  have a := Int.mul_ediv_add_emod (I.p1 * s) I.q1
  have b := Int.emod_nonneg (I.p1 * s) (show I.q1 ≠ 0 by omega)
  have e1 : I.q1 * lwM I.p1 I.q1 s ≤ I.p1 * s + I.q1 := by
    unfold lwM
    rw [Int.mul_add, Int.mul_one]
    omega
  have e2 := Int.mul_le_mul_of_nonneg_right e1 (show 0 ≤ I.q2 by omega)
  rw [Int.add_mul] at e2
  have e3 := Int.mul_le_mul_of_nonneg_right (show I.p1 * I.q2 + 1 ≤ I.p2 * I.q1 by omega) (show 0 ≤ s by omega)
  rw [Int.add_mul, Int.one_mul] at e3
  have e4 : I.p1 * s * I.q2 = I.p1 * I.q2 * s := Int.mul_right_comm _ _ _
  have e5 : I.q1 * lwM I.p1 I.q1 s * I.q2 = I.q1 * (lwM I.p1 I.q1 s * I.q2) := Int.mul_assoc _ _ _
  have e6 : I.p2 * I.q1 * s = I.q1 * (I.p2 * s) := by rw [Int.mul_comm I.p2, Int.mul_assoc]
  exact Int.lt_of_mul_lt_mul_left (show I.q1 * (lwM I.p1 I.q1 s * I.q2) < I.q1 * (I.p2 * s) by omega) (by omega)
def NoS (I : Iv) (b : Int) (k : Nat) : Prop := ∀ j < k, ∀ m, ¬ InI I m (b ^ j)
structure LstR (I : Iv) (b m : Int) (k : Nat) : Prop where
  mem : InI I m (b ^ k)
  min : ∀ m', InI I m' (b ^ k) → m ≤ m'
  low : NoS I b k
theorem LstR.uniq {I : Iv} {b m m' : Int} {k k' : Nat} (a : LstR I b m k) (c : LstR I b m' k') : m = m' ∧ k = k' := by
  have e : k = k' := by
    rcases Nat.lt_trichotomy k k' with h | h | h
    · exact absurd a.mem (c.low k h m)
    · exact h
    · exact absurd c.mem (a.low k' h m')
  subst e
  have h1 := a.min _ c.mem
  have h2 := c.min _ a.mem
  exact ⟨by omega, rfl⟩
theorem NoS.sm {I : Iv} {b : Int} {k : Nat} (ok : IOk I) (s1 : Sm 501 I.q1) (s2 : Sm 501 I.q2) (b2 : 2 ≤ b) (b1 : b ≤ 36) (n : NoS I b k) : Sm 1008 (b ^ k) ∧ k ≤ 1003 := by
  have q1 := ok.q1
  have q2 := ok.q2
  have qq : 1 ≤ I.q1 * I.q2 := by have := Int.mul_le_mul q1 q2 (by omega) (by omega); omega
  cases k with
  | zero => exact ⟨by rw [Int.pow_zero]; exact (show Sm 1 1 by decide).mono (by decide), by omega⟩
  | succ j =>
    have h : b ^ j ≤ I.q1 * I.q2 := by
      rcases Int.lt_or_le (I.q1 * I.q2) (b ^ j) with c | c
      · obtain ⟨m, hm⟩ := in_ex ok c
        exact absurd hm (n j (by omega) m)
      · exact c
    have sj : Sm 1002 (b ^ j) := (Sm.mul s1 s2).le (by have := pow_one_le (show 1 ≤ b by omega) j; omega) h
    refine ⟨?_, ?_⟩
    · rw [Int.pow_succ]
      have h6 : Sm 6 b := sm_of (by omega) (by omega)
      exact Sm.mul sj h6
    · have h1 : (2 : Int) ^ j ≤ b ^ j := by
        clear h sj n
        induction j with
        | zero => simp
        | succ j ih =>
          rw [Int.pow_succ, Int.pow_succ]
          exact Int.mul_le_mul ih b2 (by omega) (by have := pow_one_le (show 1 ≤ b by omega) j; omega)
      have h2 := sj.lt
      rcases Nat.lt_or_ge j 1002 with c | c
      · omega
      · have := pow_le c
        omega
end Dl
namespace Dl
open PySem L2
theorem sb_ex : ∀ (n : Nat) (I : Iv), IOk I → I.q1 + I.q2 ≤ n → ∃ u v, SB I u v
  | 0, I, k, h => by have := k.q1; have := k.q2; omega
  | n + 1, I, k, h => by
    by_cases c : (I.w + 1) * I.q2 < I.p2
    · exact ⟨_, _, sb_one k c⟩
    · by_cases z : I.lt = 0
      · exact ⟨_, _, sb_zero k z⟩
      · have f := k.fl
        have hq : I.ht ≤ I.q2 := by unfold Iv.ht; rw [Int.add_mul, Int.one_mul] at c; omega
        obtain ⟨c, d, s⟩ := sb_ex n I.inn (inn_ok k (by omega)) (by show I.ht + I.lt ≤ n; omega)
        exact ⟨_, _, sb_step k s⟩
end Dl
namespace Dl
open PySem L2
abbrev Co := Int × Int × Nat
def coD (e : Co) : D := .tup [.int e.1, .int e.2.1, .int e.2.2]
theorem half_agr {x y : Tr} {l h u v w z0 z1 n0 n1 : Int} (g : Agr x (u, w, v) l h) (cp : gcdI u v = 1) (C : Corn u w v l h z0 z1 n0 n1) (W : Wide u v z0 z1 n0 n1) (o1 : 1 ≤ y.2.2)
    (t0 : y.2.2 * vl x z0 ≤ y.1 * z0 + y.2.1) (t1 : y.2.2 * vl x z1 ≤ y.1 * z1 + y.2.1) (t2 : y.1 * n0 + y.2.1 < y.2.2 * (vl x n0 + 1)) (t3 : y.1 * n1 + y.2.1 < y.2.2 * (vl x n1 + 1)) : Agr x y l h := by
  have v1 := C.v1
  obtain ⟨e1, a1, b1, j1, h1⟩ := solve v1 cp 1
  obtain ⟨e2, a2, b2, j2, h2⟩ := solve v1 cp (-1)
  have key : ∀ n f r, u * n + w = v * f + r → (y.1 * v - u * y.2.2) * n + (y.2.1 * v - w * y.2.2) = v * (y.1 * n + y.2.1 - y.2.2 * f) - r * y.2.2 := fun n f r e => by grind
  have r0 := rs_vl g C.i0.1 C.i0.2
  have r1 := rs_vl g C.i1.1 C.i1.2
  have r2 := rs_vl g C.k0.1 C.k0.2
  have r3 := rs_vl g C.k1.1 C.k1.2
  rw [C.r0] at r0
  rw [C.r1] at r1
  rw [C.s0] at r2
  rw [C.s1] at r3
  have k0 := key _ _ _ r0
  have k1 := key _ _ _ r1
  have k2 := key _ _ _ r2
  have k3 := key _ _ _ r3
  have lo : ∀ n f, y.2.2 * f ≤ y.1 * n + y.2.1 → 0 ≤ v * (y.1 * n + y.2.1 - y.2.2 * f) := fun n f h => Int.mul_nonneg (by omega) (by omega)
  have hi : ∀ n f, y.1 * n + y.2.1 < y.2.2 * (f + 1) → v * (y.1 * n + y.2.1 - y.2.2 * f) ≤ v * (y.2.2 - 1) := fun n f h => by
    rw [Int.mul_add, Int.mul_one] at h
    exact Int.mul_le_mul_of_nonneg_left (by omega) (by omega)
  have q0 := lo _ _ t0
  have q1 := lo _ _ t1
  have q2 := hi _ _ t2
  have q3 := hi _ _ t3
  have eo : v * (y.2.2 - 1) - (v - 1) * y.2.2 < y.2.2 := by rw [Int.mul_sub, Int.sub_mul]; omega
  intro n nl nh
  exact (at_iff (y := y) v1 o1 (rs_vl g nl nh)).mpr (corn_line C W o1 a1 b1 h1 a2 b2 h2 (by omega) (by omega) (by omega) (by omega) nl nh)
structure Bnd (x : Tr) (l h : Int) (zs os : List Int) : Prop where
  zr : ∀ n ∈ zs, l ≤ n ∧ n ≤ h
  or' : ∀ n ∈ os, l ≤ n ∧ n ≤ h
  iff : ∀ u w v, 1 ≤ v → (Agr x (u, w, v) l h ↔ (∀ n ∈ zs, v * vl x n ≤ u * n + w) ∧ ∀ n ∈ os, u * n + w < v * (vl x n + 1))
  two : ((∃ z ∈ zs, ∃ o ∈ os, o < z) ∧ ∃ z ∈ zs, ∃ o ∈ os, z < o) ∨ zs = os
  ne : zs ≠ []
theorem agr_bd {x : Tr} {l h u w v n : Int} (v1 : 1 ≤ v) (g : Agr x (u, w, v) l h) (n1 : l ≤ n) (n2 : n ≤ h) : v * vl x n ≤ u * n + w ∧ u * n + w < v * (vl x n + 1) := by
  have k := (vl_iff (y := (u, w, v)) (n := n) (v := vl x n) v1).mp (g n n1 n2).symm
  simp only at k
  rw [Int.mul_add, Int.mul_one]
  omega
theorem bnd_one (x : Tr) (l : Int) : Bnd x l l [l] [l] := by
  refine ⟨fun n h => by simp at h; omega, fun n h => by simp at h; omega, fun u w v v1 => ⟨fun g => ?_, fun ⟨a, b⟩ => fun n n1 n2 => ?_⟩, .inr rfl, by simp⟩
  · have := agr_bd v1 g (Int.le_refl _) (Int.le_refl _)
    exact ⟨fun n h => by simp at h; subst h; exact this.1, fun n h => by simp at h; subst h; exact this.2⟩
  · obtain rfl : n = l := by omega
    have a := a n (by simp)
    have b := b n (by simp)
    refine ((vl_iff (y := (u, w, v)) (n := n) (v := vl x n) v1).mpr ?_).symm
    simp only
    rw [Int.mul_add, Int.mul_one] at b
    omega
theorem bnd_lean {x : Tr} {l h u v z0 z1 o0 o1 : Int} {I : Iv} (x1 : 1 ≤ x.2.2) (hl : l < h) (a : Slo x l h I) (s : SB I u v) (L : Lean x l h u v z0 z1 o0 o1) : Bnd x l h [z0, z1] [o0, o1] := by
  have g := a.agr x1 (Int.le_of_lt hl) s.mem
  obtain ⟨C, W⟩ := L.corn a s g x1 (Int.le_of_lt hl)
  obtain ⟨w1, w2⟩ := wide_pos hl s.cop C W
  refine ⟨fun n hn => ?_, fun n hn => ?_, fun u' w' v' v1 => ⟨fun ag => ⟨fun n hn => ?_, fun n hn => ?_⟩, fun ⟨A, B⟩ => ?_⟩, .inl ⟨⟨z1, by simp, o0, by simp, by omega⟩, z0, by simp, o1, by simp, by omega⟩, by simp⟩
  · simp at hn; rcases hn with rfl | rfl
    · exact C.i0
    · exact C.i1
  · simp at hn; rcases hn with rfl | rfl
    · exact C.k0
    · exact C.k1
  · simp at hn; rcases hn with rfl | rfl
    · exact (agr_bd v1 ag C.i0.1 C.i0.2).1
    · exact (agr_bd v1 ag C.i1.1 C.i1.2).1
  · simp at hn; rcases hn with rfl | rfl
    · exact (agr_bd v1 ag C.k0.1 C.k0.2).2
    · exact (agr_bd v1 ag C.k1.1 C.k1.2).2
  · exact half_agr (y := (u', w', v')) g s.cop C W v1 (A _ (by simp)) (A _ (by simp)) (B _ (by simp)) (B _ (by simp))
def OkP (P : List Pc) (u w v : Int) : Prop := ∀ p ∈ P, Agr p.1 (u, w, v) p.2.1 p.2.2
def SlP (P : List Pc) (u v : Int) : Prop := ∃ w, OkP P u w v
structure CorN (P : List Pc) (i : Nat) (L U : List Co) : Prop where
  lm : ∀ e ∈ L, e.2.2 < i ∧ ∃ p, P[e.2.2]? = some p ∧ p.2.1 ≤ e.1 ∧ e.1 ≤ p.2.2 ∧ e.2.1 = vl p.1 e.1
  um : ∀ e ∈ U, e.2.2 < i ∧ ∃ p, P[e.2.2]? = some p ∧ p.2.1 ≤ e.1 ∧ e.1 ≤ p.2.2 ∧ e.2.1 = vl p.1 e.1
  iff : ∀ u w v, 1 ≤ v → ((∀ j < i, ∀ p, P[j]? = some p → Agr p.1 (u, w, v) p.2.1 p.2.2) ↔ (∀ e ∈ L, v * e.2.1 ≤ u * e.1 + w) ∧ ∀ e ∈ U, u * e.1 + w < v * (e.2.1 + 1))
  two : ((∃ e ∈ L, ∃ d ∈ U, d.1 < e.1) ∧ ∃ e ∈ L, ∃ d ∈ U, e.1 < d.1) ∨ L = U
  ne : 1 ≤ i → L ≠ []
  ln : L.length ≤ 2 * i
  un : U.length ≤ 2 * i
theorem CorN.zero (P : List Pc) : CorN P 0 [] [] := ⟨fun e h => by simp at h, fun e h => by simp at h, fun u w v _ => ⟨fun _ => ⟨fun e h => by simp at h, fun e h => by simp at h⟩, fun _ j hj => by omega⟩, .inr rfl, fun h => by omega, by simp, by simp⟩
theorem CorN.step {P : List Pc} {i : Nat} {L U : List Co} (c : CorN P i L U) {p : Pc} (hp : P[i]? = some p) {zs os : List Int} (b : Bnd p.1 p.2.1 p.2.2 zs os) (lz : zs.length ≤ 2) (lo : os.length ≤ 2) :
    CorN P (i + 1) (L ++ zs.map fun n => (n, vl p.1 n, i)) (U ++ os.map fun n => (n, vl p.1 n, i)) := by
  refine ⟨fun e h => ?_, fun e h => ?_, fun u w v v1 => ?_, ?_, fun _ z => ?_, by simp; have := c.ln; omega, by simp; have := c.un; omega⟩
  · rcases List.mem_append.mp h with h | h
    · obtain ⟨a, b⟩ := c.lm e h; exact ⟨by omega, b⟩
    · obtain ⟨n, hn, rfl⟩ := List.mem_map.mp h
      exact ⟨Nat.lt_succ_self _, p, hp, (b.zr n hn).1, (b.zr n hn).2, rfl⟩
  · rcases List.mem_append.mp h with h | h
    · obtain ⟨a, b⟩ := c.um e h; exact ⟨by omega, b⟩
    · obtain ⟨n, hn, rfl⟩ := List.mem_map.mp h
      exact ⟨Nat.lt_succ_self _, p, hp, (b.or' n hn).1, (b.or' n hn).2, rfl⟩
  · have k := c.iff u w v v1
    have k2 := b.iff u w v v1
    constructor
    · intro a
      obtain ⟨q1, q2⟩ := k.mp fun j hj => a j (by omega)
      obtain ⟨q3, q4⟩ := k2.mp (a i (Nat.lt_succ_self _) p hp)
      refine ⟨fun e h => ?_, fun e h => ?_⟩
      · rcases List.mem_append.mp h with h | h
        · exact q1 e h
        · obtain ⟨n, hn, rfl⟩ := List.mem_map.mp h; exact q3 n hn
      · rcases List.mem_append.mp h with h | h
        · exact q2 e h
        · obtain ⟨n, hn, rfl⟩ := List.mem_map.mp h; exact q4 n hn
    · rintro ⟨q1, q2⟩ j hj q hq
      rcases Nat.lt_or_ge j i with z | z
      · exact k.mpr ⟨fun e h => q1 e (List.mem_append_left _ h), fun e h => q2 e (List.mem_append_left _ h)⟩ j z q hq
      · obtain rfl : j = i := by omega
        obtain rfl : p = q := Option.some.inj (hp.symm.trans hq)
        exact k2.mpr ⟨fun n h => q1 _ (List.mem_append_right _ (List.mem_map.mpr ⟨n, h, rfl⟩)), fun n h => q2 _ (List.mem_append_right _ (List.mem_map.mpr ⟨n, h, rfl⟩))⟩
  · rcases c.two with ⟨⟨e, he, d, hd, t⟩, e', he', d', hd', t'⟩ | eq
    · exact .inl ⟨⟨e, List.mem_append_left _ he, d, List.mem_append_left _ hd, t⟩, e', List.mem_append_left _ he', d', List.mem_append_left _ hd', t'⟩
    · rcases b.two with ⟨⟨z, hz, o, ho, t⟩, z', hz', o', ho', t'⟩ | eq2
      · exact .inl ⟨⟨_, List.mem_append_right _ (List.mem_map.mpr ⟨z, hz, rfl⟩), _, List.mem_append_right _ (List.mem_map.mpr ⟨o, ho, rfl⟩), t⟩, _, List.mem_append_right _ (List.mem_map.mpr ⟨z', hz', rfl⟩), _, List.mem_append_right _ (List.mem_map.mpr ⟨o', ho', rfl⟩), t'⟩
      · exact .inr (by rw [eq, eq2])
  · have := (List.append_eq_nil_iff.mp z).2
    exact b.ne (List.map_eq_nil_iff.mp this)
end Dl
namespace Dl
open PySem L2
def Fst1 (T : Co → Co → Prop) : Option (Int × Int × Co × Co) → Prop
  | none => ∀ e c, T e c → ¬ c.1 < e.1
  | some (p, q, e, c) => T e c ∧ c.1 < e.1 ∧ (p, q) = fr (e.2.1 - c.2.1 - 1) (e.1 - c.1) ∧ ∀ e' c', T e' c' → c'.1 < e'.1 → q * (e'.2.1 - c'.2.1 - 1) ≤ p * (e'.1 - c'.1)
def Snd1 (T : Co → Co → Prop) : Option (Int × Int × Co × Co) → Prop
  | none => ∀ e c, T e c → ¬ e.1 < c.1
  | some (p, q, e, c) => T e c ∧ e.1 < c.1 ∧ (p, q) = fr (c.2.1 + 1 - e.2.1) (c.1 - e.1) ∧ ∀ e' c', T e' c' → e'.1 < c'.1 → p * (c'.1 - e'.1) ≤ q * (c'.2.1 + 1 - e'.2.1)
def Nev1 (T : Co → Co → Prop) : Option (Co × Co) → Prop
  | none => ∀ e c, T e c → e.1 = c.1 → e.2.1 ≤ c.2.1
  | some (e, c) => T e c ∧ e.1 = c.1 ∧ c.2.1 < e.2.1
def barD (e c : Co) : D := .tup [.int c.1, .int c.2.2, .int e.1, .int e.2.2]
def bfD : Option (Int × Int × Co × Co) → D
  | none => .non
  | some (p, q, e, c) => .tup [.tup [.int p, .int q], barD e c]
def nvD : Option (Co × Co) → D
  | none => .non
  | some (e, c) => barD e c
section
variable {T T' : Co → Co → Prop} {e0 c0 : Co} (hT : ∀ e c, T' e c ↔ T e c ∨ (e = e0 ∧ c = c0))
include hT
theorem Fst1.skip {s : Option (Int × Int × Co × Co)} (h : Fst1 T s) (n : ¬ c0.1 < e0.1) : Fst1 T' s := by
  match s, h with
  | none, h =>
    intro e c t
    rcases (hT e c).mp t with t | ⟨rfl, rfl⟩
    · exact h e c t
    · exact n
  | some (p, q, e, c), h =>
    refine ⟨(hT _ _).mpr (.inl h.1), h.2.1, h.2.2.1, fun e' c' t l => ?_⟩
    rcases (hT e' c').mp t with t | ⟨rfl, rfl⟩
    · exact h.2.2.2 _ _ t l
    · exact absurd l n
theorem Snd1.skip {s : Option (Int × Int × Co × Co)} (h : Snd1 T s) (n : ¬ e0.1 < c0.1) : Snd1 T' s := by
  match s, h with
  | none, h =>
    intro e c t
    rcases (hT e c).mp t with t | ⟨rfl, rfl⟩
    · exact h e c t
    · exact n
  | some (p, q, e, c), h =>
    refine ⟨(hT _ _).mpr (.inl h.1), h.2.1, h.2.2.1, fun e' c' t l => ?_⟩
    rcases (hT e' c').mp t with t | ⟨rfl, rfl⟩
    · exact h.2.2.2 _ _ t l
    · exact absurd l n
theorem Nev1.skip {s : Option (Co × Co)} (h : Nev1 T s) (n : e0.1 = c0.1 → e0.2.1 ≤ c0.2.1) : Nev1 T' s := by
  match s, h with
  | none, h =>
    intro e c t l
    rcases (hT e c).mp t with t | ⟨rfl, rfl⟩
    · exact h e c t l
    · exact n l
  | some (e, c), h => exact ⟨(hT _ _).mpr (.inl h.1), h.2⟩
theorem Nev1.new (n : e0.1 = c0.1) (l : c0.2.1 < e0.2.1) : Nev1 T' (some (e0, c0)) := ⟨(hT _ _).mpr (.inr ⟨rfl, rfl⟩), n, l⟩
theorem Fst1.new {s : Option (Int × Int × Co × Co)} (h : Fst1 T s) (l : c0.1 < e0.1)
    (b : ∀ p q e c, s = some (p, q, e, c) → p * (fr (e0.2.1 - c0.2.1 - 1) (e0.1 - c0.1)).2 < (fr (e0.2.1 - c0.2.1 - 1) (e0.1 - c0.1)).1 * q) :
    Fst1 T' (some ((fr (e0.2.1 - c0.2.1 - 1) (e0.1 - c0.1)).1, (fr (e0.2.1 - c0.2.1 - 1) (e0.1 - c0.1)).2, e0, c0)) := by
  obtain ⟨g, g0, e1, e2, Q1, _⟩ := fr_ok (p := e0.2.1 - c0.2.1 - 1) (q := e0.1 - c0.1) (by omega)
  refine ⟨(hT _ _).mpr (.inr ⟨rfl, rfl⟩), l, rfl, fun e' c' t l' => ?_⟩
  generalize fr (e0.2.1 - c0.2.1 - 1) (e0.1 - c0.1) = F at *
  rcases (hT e' c').mp t with t | ⟨rfl, rfl⟩
  · match s, h with
    | none, h => exact absurd l' (h _ _ t)
    | some (p, q, e, c), h =>
      have k := h.2.2.2 _ _ t l'
      have k2 := b _ _ _ _ rfl
      have q1 : 1 ≤ q := by
        have hl := h.2.1
        obtain ⟨_, _, _, _, z, _⟩ := fr_ok (p := e.2.1 - c.2.1 - 1) (q := e.1 - c.1) (by omega)
        rw [← h.2.2.1] at z; exact z
      have m1 := Int.mul_le_mul_of_nonneg_left k (show 0 ≤ F.2 by omega)
      have m2 := Int.mul_lt_mul_of_pos_right k2 (show 0 < e'.1 - c'.1 by omega)
      have : q * (F.2 * (e'.2.1 - c'.2.1 - 1)) ≤ q * (F.1 * (e'.1 - c'.1)) := by grind
      exact Int.le_of_mul_le_mul_left this (by omega)
  · rw [e1, e2]
    exact Int.le_of_eq (by grind)
theorem Snd1.new {s : Option (Int × Int × Co × Co)} (h : Snd1 T s) (l : e0.1 < c0.1)
    (b : ∀ p q e c, s = some (p, q, e, c) → (fr (c0.2.1 + 1 - e0.2.1) (c0.1 - e0.1)).1 * q < p * (fr (c0.2.1 + 1 - e0.2.1) (c0.1 - e0.1)).2) :
    Snd1 T' (some ((fr (c0.2.1 + 1 - e0.2.1) (c0.1 - e0.1)).1, (fr (c0.2.1 + 1 - e0.2.1) (c0.1 - e0.1)).2, e0, c0)) := by
  obtain ⟨g, g0, e1, e2, Q1, _⟩ := fr_ok (p := c0.2.1 + 1 - e0.2.1) (q := c0.1 - e0.1) (by omega)
  refine ⟨(hT _ _).mpr (.inr ⟨rfl, rfl⟩), l, rfl, fun e' c' t l' => ?_⟩
  generalize fr (c0.2.1 + 1 - e0.2.1) (c0.1 - e0.1) = F at *
  rcases (hT e' c').mp t with t | ⟨rfl, rfl⟩
  · match s, h with
    | none, h => exact absurd l' (h _ _ t)
    | some (p, q, e, c), h =>
      have k := h.2.2.2 _ _ t l'
      have k2 := b _ _ _ _ rfl
      have q1 : 1 ≤ q := by
        have hl := h.2.1
        obtain ⟨_, _, _, _, z, _⟩ := fr_ok (p := c.2.1 + 1 - e.2.1) (q := c.1 - e.1) (by omega)
        rw [← h.2.2.1] at z; exact z
      have m1 := Int.mul_le_mul_of_nonneg_left k (show 0 ≤ F.2 by omega)
      have m2 := Int.mul_lt_mul_of_pos_right k2 (show 0 < c'.1 - e'.1 by omega)
      have : q * (F.1 * (c'.1 - e'.1)) ≤ q * (F.2 * (c'.2.1 + 1 - e'.2.1)) := by grind
      exact Int.le_of_mul_le_mul_left this (by omega)
  · rw [e1, e2]
    exact Int.le_of_eq (by grind)
theorem Fst1.keep {p q : Int} {e c : Co} (h : Fst1 T (some (p, q, e, c))) (l : c0.1 < e0.1) (b : ¬ p * (fr (e0.2.1 - c0.2.1 - 1) (e0.1 - c0.1)).2 < (fr (e0.2.1 - c0.2.1 - 1) (e0.1 - c0.1)).1 * q) : Fst1 T' (some (p, q, e, c)) := by
  obtain ⟨g, g0, e1, e2, Q1, _⟩ := fr_ok (p := e0.2.1 - c0.2.1 - 1) (q := e0.1 - c0.1) (by omega)
  refine ⟨(hT _ _).mpr (.inl h.1), h.2.1, h.2.2.1, fun e' c' t l' => ?_⟩
  generalize fr (e0.2.1 - c0.2.1 - 1) (e0.1 - c0.1) = F at *
  rcases (hT e' c').mp t with t | ⟨rfl, rfl⟩
  · exact h.2.2.2 _ _ t l'
  · have m := Int.mul_le_mul_of_nonneg_left (show F.1 * q ≤ p * F.2 by omega) (show 0 ≤ g by omega)
    rw [e1, e2]; grind
theorem Snd1.keep {p q : Int} {e c : Co} (h : Snd1 T (some (p, q, e, c))) (l : e0.1 < c0.1) (b : ¬ (fr (c0.2.1 + 1 - e0.2.1) (c0.1 - e0.1)).1 * q < p * (fr (c0.2.1 + 1 - e0.2.1) (c0.1 - e0.1)).2) : Snd1 T' (some (p, q, e, c)) := by
  obtain ⟨g, g0, e1, e2, Q1, _⟩ := fr_ok (p := c0.2.1 + 1 - e0.2.1) (q := c0.1 - e0.1) (by omega)
  refine ⟨(hT _ _).mpr (.inl h.1), h.2.1, h.2.2.1, fun e' c' t l' => ?_⟩
  generalize fr (c0.2.1 + 1 - e0.2.1) (c0.1 - e0.1) = F at *
  rcases (hT e' c').mp t with t | ⟨rfl, rfl⟩
  · exact h.2.2.2 _ _ t l'
  · have m := Int.mul_le_mul_of_nonneg_left (show p * F.2 ≤ F.1 * q by omega) (show 0 ≤ g by omega)
    rw [e1, e2]; grind
end
def Seen (L U : List Co) (i j : Nat) (e c : Co) : Prop := (∃ a, a < i ∧ L[a]? = some e ∧ c ∈ U) ∨ (L[i]? = some e ∧ ∃ b, b < j ∧ U[b]? = some c)
theorem seen_zero {L U : List Co} (e c : Co) : ¬ Seen L U 0 0 e c := by
  rintro (⟨a, h, _⟩ | ⟨_, b, h, _⟩) <;> omega
theorem seen_step {L U : List Co} {i j : Nat} {e0 c0 : Co} (h1 : L[i]? = some e0) (h2 : U[j]? = some c0) (e c : Co) : Seen L U i (j + 1) e c ↔ Seen L U i j e c ∨ (e = e0 ∧ c = c0) := by
  constructor
  · rintro (h | ⟨q, b, hb, z⟩)
    · exact .inl (.inl h)
    · rcases Nat.lt_or_ge b j with y | y
      · exact .inl (.inr ⟨q, b, y, z⟩)
      · obtain rfl : b = j := by omega
        exact .inr ⟨Option.some.inj (q.symm.trans h1), Option.some.inj (z.symm.trans h2)⟩
  · rintro ((h | ⟨q, b, hb, z⟩) | ⟨rfl, rfl⟩)
    · exact .inl h
    · exact .inr ⟨q, b, by omega, z⟩
    · exact .inr ⟨h1, j, by omega, h2⟩
theorem seen_row {L U : List Co} {i : Nat} (e c : Co) : Seen L U i U.length e c ↔ Seen L U (i + 1) 0 e c := by
  constructor
  · rintro (⟨a, h, q⟩ | ⟨q, b, hb, z⟩)
    · exact .inl ⟨a, by omega, q⟩
    · exact .inl ⟨i, by omega, q, List.mem_of_getElem? z⟩
  · rintro (⟨a, h, q, m⟩ | ⟨q, b, hb, z⟩)
    · rcases Nat.lt_or_ge a i with y | y
      · exact .inl ⟨a, y, q, m⟩
      · obtain rfl : a = i := by omega
        obtain ⟨b, hb⟩ := List.mem_iff_getElem?.mp m
        have hb2 : b < U.length := by
          rcases Nat.lt_or_ge b U.length with z | z
          · exact z
          · rw [List.getElem?_eq_none z] at hb; cases hb
        exact .inr ⟨q, b, hb2, hb⟩
    · omega
theorem seen_all {L U : List Co} (e c : Co) : Seen L U L.length 0 e c ↔ e ∈ L ∧ c ∈ U := by
  constructor
  · rintro (⟨a, h, q, m⟩ | ⟨q, b, hb, z⟩)
    · exact ⟨List.mem_of_getElem? q, m⟩
    · omega
  · rintro ⟨h, m⟩
    obtain ⟨a, ha⟩ := List.mem_iff_getElem?.mp h
    refine .inl ⟨a, ?_, ha, m⟩
    rcases Nat.lt_or_ge a L.length with z | z
    · exact z
    · rw [List.getElem?_eq_none z] at ha; cases ha
theorem ex_max (g : Co → Int) : ∀ L : List Co, L ≠ [] → ∃ e ∈ L, ∀ d ∈ L, g d ≤ g e
  | [], h => absurd rfl h
  | [a], _ => ⟨a, by simp, fun d h => by simp at h; subst h; exact Int.le_refl _⟩
  | a :: b :: r, _ => by
    obtain ⟨e, he, m⟩ := ex_max g (b :: r) (by simp)
    by_cases c : g e ≤ g a
    · exact ⟨a, by simp, fun d hd => by
        rcases List.mem_cons.mp hd with rfl | hd
        · exact Int.le_refl _
        · have := m d hd; omega⟩
    · exact ⟨e, List.mem_cons_of_mem _ he, fun d hd => by
        rcases List.mem_cons.mp hd with rfl | hd
        · omega
        · exact m d hd⟩
section
variable {P : List Pc} {L U : List Co} (C : CorN P P.length L U)
include C
theorem CorN.ok {u w v : Int} (v1 : 1 ≤ v) : OkP P u w v ↔ (∀ e ∈ L, v * e.2.1 ≤ u * e.1 + w) ∧ ∀ e ∈ U, u * e.1 + w < v * (e.2.1 + 1) := by
  rw [← C.iff u w v v1]
  constructor
  · exact fun h j _ p hp => h p (List.mem_of_getElem? hp)
  · intro h p hp
    obtain ⟨j, hj⟩ := List.mem_iff_getElem?.mp hp
    refine h j ?_ p hj
    rcases Nat.lt_or_ge j P.length with z | z
    · exact z
    · rw [List.getElem?_eq_none z] at hj; cases hj
theorem CorN.slp (ne : P ≠ []) {u v : Int} (v1 : 1 ≤ v) : SlP P u v ↔ ∀ e ∈ L, ∀ c ∈ U, v * (e.2.1 - c.2.1 - 1) < u * (e.1 - c.1) := by
  constructor
  · rintro ⟨w, h⟩ e he c hc
    obtain ⟨a, b⟩ := (C.ok v1).mp h
    have a := a e he
    have b := b c hc
    rw [Int.mul_sub, Int.mul_sub, Int.mul_sub]
    rw [Int.mul_add] at b
    omega
  · intro h
    have Ln : L ≠ [] := C.ne (by cases P with
      | nil => exact absurd rfl ne
      | cons _ _ => simp)
    obtain ⟨e, he, m⟩ := ex_max (fun e => v * e.2.1 - u * e.1) L Ln
    refine ⟨v * e.2.1 - u * e.1, (C.ok v1).mpr ⟨fun d hd => by have := m d hd; omega, fun c hc => ?_⟩⟩
    have := h e he c hc
    rw [Int.mul_sub, Int.mul_sub, Int.mul_sub] at this
    rw [Int.mul_add]
    omega
theorem CorN.never (ne : P ≠ []) {e c : Co} (n : Nev1 (fun e c => e ∈ L ∧ c ∈ U) (some (e, c))) {u v : Int} (v1 : 1 ≤ v) : ¬ SlP P u v := fun s => by
  have k := (C.slp ne v1).mp s e n.1.1 c n.1.2
  rw [n.2.1, Int.sub_self, Int.mul_zero] at k
  have := Int.mul_nonneg (show 0 ≤ v by omega) (show 0 ≤ e.2.1 - c.2.1 - 1 by have := n.2.2; omega)
  omega
theorem CorN.all (ne : P ≠ []) (n : Nev1 (fun e c => e ∈ L ∧ c ∈ U) none) (f : Fst1 (fun e c => e ∈ L ∧ c ∈ U) none) {u v : Int} (v1 : 1 ≤ v) : SlP P u v := by
  refine (C.slp ne v1).mpr fun e he c hc => ?_
  have f1 : ¬ c.1 < e.1 := f e c ⟨he, hc⟩
  have f2 : ¬ e.1 < c.1 := by
    rcases C.two with ⟨⟨a, ha, b, hb, t⟩, _⟩ | z
    · exact absurd t (f a b ⟨ha, hb⟩)
    · subst z; exact f c e ⟨hc, he⟩
  have e1 : e.1 = c.1 := by omega
  have := n e c ⟨he, hc⟩ e1
  rw [e1, Int.sub_self, Int.mul_zero]
  have := Int.mul_le_mul_of_nonneg_left (show e.2.1 - c.2.1 - 1 ≤ -1 by omega) (show 0 ≤ v by omega)
  omega
theorem CorN.snd {p q : Int} {e c : Co} (f : Fst1 (fun e c => e ∈ L ∧ c ∈ U) (some (p, q, e, c))) : ¬ Snd1 (fun e c => e ∈ L ∧ c ∈ U) none := fun s => by
  rcases C.two with ⟨_, a, ha, b, hb, t⟩ | z
  · exact s a b ⟨ha, hb⟩ t
  · subst z; exact s c e ⟨f.1.2, f.1.1⟩ f.2.1
theorem CorN.iv (ne : P ≠ []) {p q p2 q2 : Int} {e c e2 c2 : Co} (n : Nev1 (fun e c => e ∈ L ∧ c ∈ U) none) (f : Fst1 (fun e c => e ∈ L ∧ c ∈ U) (some (p, q, e, c))) (s : Snd1 (fun e c => e ∈ L ∧ c ∈ U) (some (p2, q2, e2, c2))) {u v : Int} (v1 : 1 ≤ v) : SlP P u v ↔ InI ⟨p, q, p2, q2⟩ u v := by
  have hl := f.2.1
  have hl2 := s.2.1
  obtain ⟨g, g0, a1, a2, Q1, _⟩ := fr_ok (p := e.2.1 - c.2.1 - 1) (q := e.1 - c.1) (by omega)
  obtain ⟨g', g0', b1, b2, Q1', _⟩ := fr_ok (p := c2.2.1 + 1 - e2.2.1) (q := c2.1 - e2.1) (by omega)
  rw [← f.2.2.1] at a1 a2 Q1
  rw [← s.2.2.1] at b1 b2 Q1'
  simp only at a1 a2 Q1 b1 b2 Q1'
  rw [C.slp ne v1]
  constructor
  · intro h
    have k1 := h e f.1.1 c f.1.2
    have k2 := h e2 s.1.1 c2 s.1.2
    refine ⟨v1, ?_, ?_⟩
    · show p * v < u * q
      rw [a1, a2] at k1
      have : g * (p * v) < g * (u * q) := by grind
      exact Int.lt_of_mul_lt_mul_left this (by omega)
    · show u * q2 < p2 * v
      rw [show e2.2.1 - c2.2.1 - 1 = -(c2.2.1 + 1 - e2.2.1) by omega, show e2.1 - c2.1 = -(c2.1 - e2.1) by omega, b1, b2] at k2
      have : g' * (u * q2) < g' * (p2 * v) := by grind
      exact Int.lt_of_mul_lt_mul_left this (by omega)
  · rintro ⟨_, h1, h2⟩ d hd a ha
    have h1 : p * v < u * q := h1
    have h2 : u * q2 < p2 * v := h2
    rcases Int.lt_trichotomy a.1 d.1 with t | t | t
    · have k := f.2.2.2 d a ⟨hd, ha⟩ t
      have m1 := Int.mul_le_mul_of_nonneg_left k (show 0 ≤ v by omega)
      have m2 := Int.mul_lt_mul_of_pos_right h1 (show 0 < d.1 - a.1 by omega)
      have : q * (v * (d.2.1 - a.2.1 - 1)) < q * (u * (d.1 - a.1)) := by grind
      exact Int.lt_of_mul_lt_mul_left this (by omega)
    · have := n d a ⟨hd, ha⟩ t.symm
      rw [t, Int.sub_self, Int.mul_zero]
      have := Int.mul_le_mul_of_nonneg_left (show d.2.1 - a.2.1 - 1 ≤ -1 by omega) (show 0 ≤ v by omega)
      omega
    · have k := s.2.2.2 d a ⟨hd, ha⟩ t
      have m1 := Int.mul_le_mul_of_nonneg_left k (show 0 ≤ v by omega)
      have m2 := Int.mul_lt_mul_of_pos_right h2 (show 0 < a.1 - d.1 by omega)
      have : q2 * (v * (d.2.1 - a.2.1 - 1)) < q2 * (u * (d.1 - a.1)) := by grind
      exact Int.lt_of_mul_lt_mul_left this (by omega)
end
end Dl
namespace Dl
open PySem L2
theorem SB.mk' {I : Iv} {u v : Int} (ok : IOk I) (m : InI I u v) (den : ∀ u' v', InI I u' v' → v ≤ v') (one : ∀ u', InI I u' v → u ≤ u') : SB I u v := by
  obtain ⟨a, b, s⟩ := sb_ex (I.q1 + I.q2).toNat I ok (by have := ok.q1; have := ok.q2; omega)
  have h1 := s.den _ _ m
  have h2 := den _ _ s.mem
  obtain rfl : b = v := by omega
  have h3 := s.one _ m
  have h4 := one _ s.mem
  obtain rfl : a = u := by omega
  exact s
theorem SB.only {I : Iv} {u v u' : Int} (ok : IOk I) (s : SB I u v) (v2 : 2 ≤ v) (m : InI I u' v) : u' = u := by
  have h1 := s.one _ m
  rcases Int.lt_or_le u u' with c | c
  · have q1 := ok.q1
    have q2 := ok.q2
    have a := Int.mul_ediv_add_emod (-(u * (v - 1))) v
    have b := Int.emod_nonneg (-(u * (v - 1))) (show v ≠ 0 by omega)
    have d := Int.emod_lt_of_pos (-(u * (v - 1))) (show 0 < v by omega)
    generalize -(u * (v - 1)) / v = t at *
    generalize -(u * (v - 1)) % v = r at *
    have e1 : -t * v = u * (v - 1) + r := by rw [Int.neg_mul, Int.mul_comm]; omega
    have hm : InI I (-t) (v - 1) := by
      refine ⟨by omega, ?_, ?_⟩
      · have x1 := Int.mul_lt_mul_of_pos_right s.mem.lo (show 0 < v - 1 by omega)
        have x2 := Int.mul_nonneg (show 0 ≤ r by omega) (show 0 ≤ I.q1 by omega)
        have x3 : -t * I.q1 * v = u * I.q1 * (v - 1) + r * I.q1 := by rw [Int.mul_right_comm, e1, Int.add_mul, Int.mul_right_comm]
        have x4 : I.p1 * (v - 1) * v = I.p1 * v * (v - 1) := Int.mul_right_comm _ _ _
        exact Int.lt_of_mul_lt_mul_right (show I.p1 * (v - 1) * v < -t * I.q1 * v by omega) (by omega)
      · have x0 := Int.mul_le_mul_of_nonneg_right (show u + 1 ≤ u' by omega) (show 0 ≤ I.q2 by omega)
        have mh := m.hi
        have x1 := Int.mul_lt_mul_of_pos_right (show (u + 1) * I.q2 < I.p2 * v by omega) (show 0 < v - 1 by omega)
        have x2 := Int.mul_le_mul_of_nonneg_right (show r ≤ v - 1 by omega) (show 0 ≤ I.q2 by omega)
        have x3 : -t * I.q2 * v = u * I.q2 * (v - 1) + r * I.q2 := by rw [Int.mul_right_comm, e1, Int.add_mul, Int.mul_right_comm]
        have x4 : I.p2 * (v - 1) * v = I.p2 * v * (v - 1) := Int.mul_right_comm _ _ _
        have x5 : (u + 1) * I.q2 * (v - 1) = u * I.q2 * (v - 1) + (v - 1) * I.q2 := by rw [Int.add_mul, Int.one_mul, Int.add_mul, Int.mul_comm I.q2 (v - 1)]
        exact Int.lt_of_mul_lt_mul_right (show -t * I.q2 * v < I.p2 * (v - 1) * v by omega) (by omega)
    have := s.den _ _ hm
    omega
  · omega
def Iv.neg (I : Iv) : Iv := ⟨-I.p2, I.q2, -I.p1, I.q1⟩
theorem in_neg {I : Iv} {u v : Int} : InI I.neg (-u) v ↔ InI I u v := by
  constructor
  · intro m
    have a : -I.p2 * v < -u * I.q2 := m.lo
    have b : -u * I.q1 < -I.p1 * v := m.hi
    rw [Int.neg_mul, Int.neg_mul] at a b
    exact ⟨m.v1, by omega, by omega⟩
  · intro m
    have a := m.lo
    have b := m.hi
    exact ⟨m.v1, by show -I.p2 * v < -u * I.q2; rw [Int.neg_mul, Int.neg_mul]; omega, by show -u * I.q1 < -I.p1 * v; rw [Int.neg_mul, Int.neg_mul]; omega⟩
theorem IOk.neg {I : Iv} (ok : IOk I) : IOk I.neg := by
  refine ⟨ok.q2, ok.q1, ?_⟩
  show -I.p2 * I.q1 < -I.p1 * I.q2
  rw [Int.neg_mul, Int.neg_mul]
  have := ok.lt
  omega
theorem in_neg' {I : Iv} {u v : Int} (m : InI I.neg u v) : InI I (-u) v := in_neg.mp (by rw [Int.neg_neg]; exact m)
theorem SB.neg {I : Iv} {u v : Int} (ok : IOk I) (s : SB I u v) (v2 : 2 ≤ v) : SB I.neg (-u) v :=
  SB.mk' ok.neg (in_neg.mpr s.mem) (fun _ _ m => s.den _ _ (in_neg' m)) fun u' m => by have := s.only ok v2 (in_neg' m); omega
theorem LstR.neg {I : Iv} {b m m' : Int} {j j' : Nat} (a : LstR I b m j) (c : LstR I.neg b m' j') : j' = j := by
  rcases Nat.lt_trichotomy j j' with h | h | h
  · exact absurd (in_neg.mpr a.mem) (c.low j h _)
  · exact h.symm
  · exact absurd (in_neg' c.mem) (a.low j' h _)
theorem LowS.plus {f g : Int → Int} {l h p q k : Int} (e : ∀ n, g n = f n + k) (a : LowS f l h p q) : LowS g l h p q := by
  have d : ∀ a b, g b - g a - 1 = f b - f a - 1 := fun a b => by rw [e, e]; omega
  exact ⟨a.q1, a.cop, by obtain ⟨c, z, c1, cd, d1, ee⟩ := a.ex; exact ⟨c, z, c1, cd, d1, by rw [d]; exact ee⟩, fun c z c1 cd d1 => by rw [d]; exact a.le c z c1 cd d1⟩
theorem LowS.shift {f g : Int → Int} {l h p q k : Int} (e : ∀ n, g n = f (n + k)) (a : LowS f l h p q) : LowS g (l - k) (h - k) p q := by
  refine ⟨a.q1, a.cop, ?_, fun c z c1 cd d1 => ?_⟩
  · obtain ⟨c, z, c1, cd, d1, ee⟩ := a.ex
    exact ⟨c - k, z - k, by omega, by omega, by omega, by rw [e, e, Int.sub_add_cancel, Int.sub_add_cancel, show z - k - (c - k) = z - c by omega]; exact ee⟩
  · rw [e, e]
    have := a.le (c + k) (z + k) (by omega) (by omega) (by omega)
    rw [show z + k - (c + k) = z - c by omega] at this
    exact this
theorem LowS.turn {f g : Int → Int} {l h p q : Int} (e : ∀ n, g n = - f (-n)) (a : LowS f l h p q) : LowS g (-h) (-l) p q := by
  refine ⟨a.q1, a.cop, ?_, fun c z c1 cd d1 => ?_⟩
  · obtain ⟨c, z, c1, cd, d1, ee⟩ := a.ex
    exact ⟨-z, -c, by omega, by omega, by omega, by rw [e, e, Int.neg_neg, Int.neg_neg, show -c - -z = z - c by omega, show -f c - -f z - 1 = f z - f c - 1 by omega]; exact ee⟩
  · rw [e, e]
    have := a.le (-z) (-c) (by omega) (by omega) (by omega)
    rw [show -c - -z = z - c by omega] at this
    rw [show -f (-z) - -f (-c) - 1 = f (-c) - f (-z) - 1 by omega]
    exact this
structure MvP (x y : Tr) (k : Int) : Prop where
  x1 : 1 ≤ x.2.2
  y1 : 1 ≤ y.2.2
  e : ∀ n, vl y n = vl x n + k
structure MvT (x y : Tr) (k : Int) : Prop where
  x1 : 1 ≤ x.2.2
  y1 : 1 ≤ y.2.2
  e : ∀ n, vl y n = vl x n + k * n
structure MvS (x y : Tr) (k : Int) : Prop where
  x1 : 1 ≤ x.2.2
  y1 : 1 ≤ y.2.2
  e : ∀ n, vl y n = vl x (n + k)
structure MvN (x y : Tr) : Prop where
  x1 : 1 ≤ x.2.2
  y1 : 1 ≤ y.2.2
  e : ∀ n, vl y n = -vl x n
structure MvM (x y : Tr) : Prop where
  x1 : 1 ≤ x.2.2
  y1 : 1 ≤ y.2.2
  e : ∀ n, vl y n = vl x (-n)
section
variable {x y : Tr} {l h k : Int} {I : Iv}
end
end Dl
namespace Dl
open PySem L2
theorem IsArg.plus {f g : Int → Int} {l h n c : Int} {b : Bool} (e : ∀ n, g n = f n + c) (a : IsArg f l h b n) : IsArg g l h b n :=
  ⟨a.l0, a.h0, fun m h1 h2 => by rw [e, e]; have := a.le m h1 h2; omega, fun m h1 h2 q => a.tie m h1 h2 (by rw [e, e] at q; omega)⟩
theorem IsArg.shift {f g : Int → Int} {l h n c k : Int} {b : Bool} (e : ∀ n, g n = f (n + k) + c) (a : IsArg f l h b n) : IsArg g (l - k) (h - k) b (n - k) := by
  refine ⟨by have := a.l0; omega, by have := a.h0; omega, fun m h1 h2 => ?_, fun m h1 h2 q => ?_⟩
  · rw [e, e, Int.sub_add_cancel]
    have := a.le (m + k) (by omega) (by omega)
    omega
  · rw [e, e, Int.sub_add_cancel] at q
    have := a.tie (m + k) (by omega) (by omega) (by omega)
    cases b <;> simp at this ⊢ <;> omega
theorem IsArg.turn {f g : Int → Int} {l h n : Int} {b : Bool} (e : ∀ n, g n = f (-n)) (a : IsArg f l h b n) : IsArg g (-h) (-l) (!b) (-n) := by
  refine ⟨by have := a.h0; omega, by have := a.l0; omega, fun m h1 h2 => ?_, fun m h1 h2 q => ?_⟩
  · rw [e, e, Int.neg_neg]
    exact a.le (-m) (by omega) (by omega)
  · rw [e, e, Int.neg_neg] at q
    have := a.tie (-m) (by omega) (by omega) q
    cases b <;> simp at this ⊢ <;> omega
section
variable {x y : Tr} {l h k : Int} {ts ms : List Int}
theorem MvP.loW (hl : l ≤ h) (m : MvP x y k) {u v : Int} : loW y l h u v = loW x l h u v + v * k := by
  obtain ⟨⟨a, a1, a2, ea⟩, la⟩ := loW_ok (x := x) (u := u) (v := v) hl
  obtain ⟨⟨b, b1, b2, eb⟩, lb⟩ := loW_ok (x := y) (u := u) (v := v) hl
  have h1 := lb a a1 a2
  have h2 := la b b1 b2
  rw [m.e, Int.mul_add] at h1 eb
  omega
theorem MvT.loW (hl : l ≤ h) (m : MvT x y k) {u v : Int} : loW y l h (u + k * v) v = loW x l h u v := by
  obtain ⟨⟨a, a1, a2, ea⟩, la⟩ := loW_ok (x := x) (u := u) (v := v) hl
  obtain ⟨⟨b, b1, b2, eb⟩, lb⟩ := loW_ok (x := y) (u := u + k * v) (v := v) hl
  have h1 := lb a a1 a2
  have h2 := la b b1 b2
  rw [m.e, Int.mul_add, Int.add_mul, Int.mul_left_comm v k, Int.mul_assoc k v] at h1 eb
  omega
theorem MvS.loW (hl : l ≤ h) (m : MvS x y k) {u v : Int} : loW y (l - k) (h - k) u v = loW x l h u v + u * k := by
  obtain ⟨⟨a, a1, a2, ea⟩, la⟩ := loW_ok (x := x) (u := u) (v := v) hl
  obtain ⟨⟨b, b1, b2, eb⟩, lb⟩ := loW_ok (x := y) (l := l - k) (h := h - k) (u := u) (v := v) (by omega)
  have h1 := lb (a - k) (by omega) (by omega)
  have h2 := la (b + k) (by omega) (by omega)
  rw [m.e, Int.sub_add_cancel, Int.mul_sub] at h1
  rw [m.e] at eb
  rw [Int.mul_add] at h2
  omega
end
end Dl
namespace Dl
open PySem L2
section
variable {x : Tr} {l h u v w z0 z1 n0 n1 : Int} {I : Iv} (hl : l < h) (x1 : 1 ≤ x.2.2) (sI : Slo x l h I) (s : SB I u v) (g : Agr x (u, w, v) l h) (C : Corn u w v l h z0 z1 n0 n1) (W : Wide u v z0 z1 n0 n1)
include hl x1 sI s g C W
end
end Dl
namespace Dl
open PySem L2
theorem Slp.mono {f : Int → Int} {l h l' h' u v : Int} (s : Slp f l h u v) (a : l ≤ l') (b : h' ≤ h) : Slp f l' h' u v := fun c d c1 c2 d1 d2 => s c d (by omega) (by omega) (by omega) (by omega)
theorem Slp.congr {f g : Int → Int} {l h u v : Int} (e : ∀ n, f n = g n) (s : Slp f l h u v) : Slp g l h u v := fun c d c1 c2 d1 d2 => by rw [← e, ← e]; exact s c d c1 c2 d1 d2
structure Far (f : Int → Int) (l m S H : Int) : Prop where
  l0 : l ≤ H
  at' : l < H → Slp f l H m S
  no : ¬ Slp f l (H + 1) m S
theorem Far.ge {f : Int → Int} {l m S H h : Int} (a : Far f l m S H) (s : Slp f l h m S) : h ≤ H := by
  rcases Int.lt_or_le H h with c | c
  · exact absurd (s.mono (Int.le_refl _) (by omega)) a.no
  · exact c
theorem base_pow {b : Int} {w k n : Nat} (b0 : 0 ≤ b) (h : b ≤ 2 ^ w) (hk : w * k ≤ n) : b ^ k ≤ 2 ^ n := by
  have h1 : b ^ k ≤ (2 ^ w) ^ k := by
    clear hk
    induction k with
    | zero => simp
    | succ k ih =>
      rw [Int.pow_succ, Int.pow_succ]
      exact Int.mul_le_mul ih h b0 (Int.le_of_lt (Int.pow_pos (two_pos w)))
  rw [← Int.pow_mul] at h1
  exact Int.le_trans h1 (two_mono _ _ hk)
end Dl
namespace Dl
open PySem L2
end Dl
namespace Dl
open PySem L2
def Cov (x : Tr) (l h : Int) (P : List Pc) : Prop := ∀ u w v, 1 ≤ v → (OkP P u w v ↔ Agr x (u, w, v) l h)
theorem cov_all (x : Tr) (l h : Int) : Cov x l h [(x, l, h)] := fun u w v _ => ⟨fun a => a (x, l, h) (by simp), fun a p hp => by simp at hp; subst hp; exact a⟩
theorem cov_slp {x : Tr} {l h : Int} {P : List Pc} {I : Iv} (x1 : 1 ≤ x.2.2) (hl : l < h) (sI : Slo x l h I) (c : Cov x l h P) {u v : Int} (v1 : 1 ≤ v) : SlP P u v ↔ InI I u v := by
  constructor
  · rintro ⟨w, a⟩
    obtain ⟨b1, b2⟩ := (agr_of_slp (Int.le_of_lt hl) v1).mp ((c u w v v1).mp a)
    exact (inI_iff sI x1 v1).mpr (room_slp (Int.le_of_lt hl) (by omega))
  · intro m
    exact ⟨_, (c u _ v v1).mpr (sI.agr x1 (Int.le_of_lt hl) m)⟩
theorem cov_some {x : Tr} {l h : Int} {P : List Pc} {I : Iv} (x1 : 1 ≤ x.2.2) (hl : l < h) (sI : Slo x l h I) (c : Cov x l h P) : (¬ ∀ u v, 1 ≤ v → ¬ SlP P u v) ∧ ¬ ∀ u v, 1 ≤ v → SlP P u v := by
  refine ⟨fun no => no _ _ x1 ((cov_slp x1 hl sI c x1).mpr (sI.self x1)), fun al => ?_⟩
  have q1 := (sI.ok x1).q1
  have := ((cov_slp x1 hl sI c q1).mp (al I.p1 I.q1 q1)).lo
  omega
end Dl
namespace Dl
open PySem L2
abbrev Pt := Int × Int
def SpA (Sp : List Pt) (u w v : Int) : Prop := ∀ e ∈ Sp, v * e.2 ≤ u * e.1 + w ∧ u * e.1 + w < v * (e.2 + 1)
def SpC (Sp : List Pt) (u v : Int) : Prop := ∀ e ∈ Sp, ∀ c ∈ Sp, v * (e.2 - c.2 - 1) < u * (e.1 - c.1)
theorem spc_of {Sp : List Pt} {u w v : Int} (h : SpA Sp u w v) : SpC Sp u v := fun e he c hc => by
  have a := (h e he).1
  have b := (h c hc).2
  rw [Int.mul_sub, Int.mul_sub, Int.mul_sub]
  rw [Int.mul_add] at b
  omega
theorem spa_of {Sp : List Pt} {u w v : Int} (h : SpC Sp u v) (up : ∀ e ∈ Sp, v * e.2 - u * e.1 ≤ w) (at_ : ∃ e ∈ Sp, v * e.2 - u * e.1 = w) : SpA Sp u w v := fun c hc => by
  obtain ⟨e, he, rfl⟩ := at_
  have a := up c hc
  have b := h e he c hc
  rw [Int.mul_sub, Int.mul_sub, Int.mul_sub] at b
  rw [Int.mul_add]
  omega
def EqB (T : Pt → Pt → Prop) : Prop := ∀ e c, T e c → e.1 = c.1 → e.2 = c.2
def LoB (T : Pt → Pt → Prop) : Option Pt → Prop
  | none => ∀ e c, T e c → ¬ c.1 < e.1
  | some (p, q) => (∃ e c, T e c ∧ c.1 < e.1 ∧ p = e.2 - c.2 - 1 ∧ q = e.1 - c.1) ∧ ∀ e c, T e c → c.1 < e.1 → (e.2 - c.2 - 1) * q ≤ p * (e.1 - c.1)
def HiB (T : Pt → Pt → Prop) : Option Pt → Prop
  | none => ∀ e c, T e c → ¬ c.1 < e.1
  | some (p, q) => (∃ e c, T e c ∧ c.1 < e.1 ∧ p = e.2 - c.2 + 1 ∧ q = e.1 - c.1) ∧ ∀ e c, T e c → c.1 < e.1 → p * (e.1 - c.1) ≤ (e.2 - c.2 + 1) * q
section
variable {T T' : Pt → Pt → Prop} {e0 c0 : Pt} (hT : ∀ e c, T' e c ↔ T e c ∨ (e = e0 ∧ c = c0))
include hT
theorem EqB.add (h : EqB T) (n : e0.1 = c0.1 → e0.2 = c0.2) : EqB T' := fun e c t he => by
  rcases (hT e c).mp t with t | ⟨rfl, rfl⟩
  · exact h e c t he
  · exact n he
theorem LoB.skip {s : Option Pt} (h : LoB T s) (n : ¬ c0.1 < e0.1) : LoB T' s := by
  cases s with
  | none =>
    intro e c t
    rcases (hT e c).mp t with t | ⟨rfl, rfl⟩
    · exact h e c t
    · exact n
  | some z =>
    obtain ⟨p, q⟩ := z
    obtain ⟨⟨e, c, t, r⟩, m⟩ := h
    refine ⟨⟨e, c, (hT e c).mpr (.inl t), r⟩, fun e c t he => ?_⟩
    rcases (hT e c).mp t with t | ⟨rfl, rfl⟩
    · exact m e c t he
    · exact absurd he n
theorem HiB.skip {s : Option Pt} (h : HiB T s) (n : ¬ c0.1 < e0.1) : HiB T' s := by
  cases s with
  | none =>
    intro e c t
    rcases (hT e c).mp t with t | ⟨rfl, rfl⟩
    · exact h e c t
    · exact n
  | some z =>
    obtain ⟨p, q⟩ := z
    obtain ⟨⟨e, c, t, r⟩, m⟩ := h
    refine ⟨⟨e, c, (hT e c).mpr (.inl t), r⟩, fun e c t he => ?_⟩
    rcases (hT e c).mp t with t | ⟨rfl, rfl⟩
    · exact m e c t he
    · exact absurd he n
theorem LoB.keep {p q : Int} (h : LoB T (some (p, q))) (b : ¬ (e0.2 - c0.2 - 1) * q > p * (e0.1 - c0.1)) : LoB T' (some (p, q)) := by
  obtain ⟨⟨e, c, t, r⟩, m⟩ := h
  exact ⟨⟨e, c, (hT e c).mpr (.inl t), r⟩, fun e c t he => by
    rcases (hT e c).mp t with t | ⟨rfl, rfl⟩
    · exact m e c t he
    · exact Int.not_lt.mp b⟩
theorem HiB.keep {p q : Int} (h : HiB T (some (p, q))) (b : ¬ (e0.2 - c0.2 + 1) * q < p * (e0.1 - c0.1)) : HiB T' (some (p, q)) := by
  obtain ⟨⟨e, c, t, r⟩, m⟩ := h
  exact ⟨⟨e, c, (hT e c).mpr (.inl t), r⟩, fun e c t he => by
    rcases (hT e c).mp t with t | ⟨rfl, rfl⟩
    · exact m e c t he
    · exact Int.not_lt.mp b⟩
theorem LoB.new {s : Option Pt} (h : LoB T s) (l : c0.1 < e0.1) (b : ∀ p q, s = some (p, q) → (e0.2 - c0.2 - 1) * q > p * (e0.1 - c0.1)) : LoB T' (some (e0.2 - c0.2 - 1, e0.1 - c0.1)) := by
  refine ⟨⟨e0, c0, (hT _ _).mpr (.inr ⟨rfl, rfl⟩), l, rfl, rfl⟩, fun e c t he => ?_⟩
  rcases (hT e c).mp t with t | ⟨rfl, rfl⟩
  · match s, h with
    | none, h => exact absurd he (h e c t)
    | some (p, q), ⟨⟨e1, c1, _, l1, _, hq⟩, m⟩ =>
      have b := b p q rfl
      have m := m e c t he
      have q0 : 0 < q := by omega
      -- a / x ≤ p / q < b / y
      have h1 := Int.mul_le_mul_of_nonneg_right m (show 0 ≤ e0.1 - c0.1 by omega)
      have h2 := Int.mul_lt_mul_of_pos_right b (show 0 < e.1 - c.1 by omega)
      have h3 : (e.2 - c.2 - 1) * (e0.1 - c0.1) * q < (e0.2 - c0.2 - 1) * (e.1 - c.1) * q := by
        have e1 : (e.2 - c.2 - 1) * q * (e0.1 - c0.1) = (e.2 - c.2 - 1) * (e0.1 - c0.1) * q := by grind
        have e2 : p * (e.1 - c.1) * (e0.1 - c0.1) = p * (e0.1 - c0.1) * (e.1 - c.1) := by grind
        have e3 : (e0.2 - c0.2 - 1) * q * (e.1 - c.1) = (e0.2 - c0.2 - 1) * (e.1 - c.1) * q := by grind
        omega
      exact Int.le_of_lt (Int.lt_of_mul_lt_mul_right h3 (by omega))
  · exact Int.le_refl _
theorem HiB.new {s : Option Pt} (h : HiB T s) (l : c0.1 < e0.1) (b : ∀ p q, s = some (p, q) → (e0.2 - c0.2 + 1) * q < p * (e0.1 - c0.1)) : HiB T' (some (e0.2 - c0.2 + 1, e0.1 - c0.1)) := by
  refine ⟨⟨e0, c0, (hT _ _).mpr (.inr ⟨rfl, rfl⟩), l, rfl, rfl⟩, fun e c t he => ?_⟩
  rcases (hT e c).mp t with t | ⟨rfl, rfl⟩
  · match s, h with
    | none, h => exact absurd he (h e c t)
    | some (p, q), ⟨⟨e1, c1, _, l1, _, hq⟩, m⟩ =>
      have b := b p q rfl
      have m := m e c t he
      have q0 : 0 < q := by omega
      have h1 := Int.mul_le_mul_of_nonneg_right m (show 0 ≤ e0.1 - c0.1 by omega)
      have h2 := Int.mul_lt_mul_of_pos_right b (show 0 < e.1 - c.1 by omega)
      have h3 : (e0.2 - c0.2 + 1) * (e.1 - c.1) * q < (e.2 - c.2 + 1) * (e0.1 - c0.1) * q := by
        have e1 : (e.2 - c.2 + 1) * q * (e0.1 - c0.1) = (e.2 - c.2 + 1) * (e0.1 - c0.1) * q := by grind
        have e2 : p * (e.1 - c.1) * (e0.1 - c0.1) = p * (e0.1 - c0.1) * (e.1 - c.1) := by grind
        have e3 : (e0.2 - c0.2 + 1) * q * (e.1 - c.1) = (e0.2 - c0.2 + 1) * (e.1 - c.1) * q := by grind
        omega
      exact Int.le_of_lt (Int.lt_of_mul_lt_mul_right h3 (by omega))
  · exact Int.le_refl _
end
theorem LoB.to {T T' : Pt → Pt → Prop} (hT : ∀ e c, T e c ↔ T' e c) {s : Option Pt} (h : LoB T s) : LoB T' s := by
  have : T = T' := by funext e c; exact propext (hT e c)
  exact this ▸ h
theorem HiB.to {T T' : Pt → Pt → Prop} (hT : ∀ e c, T e c ↔ T' e c) {s : Option Pt} (h : HiB T s) : HiB T' s := by
  have : T = T' := by funext e c; exact propext (hT e c)
  exact this ▸ h
theorem EqB.to {T T' : Pt → Pt → Prop} (hT : ∀ e c, T e c ↔ T' e c) (h : EqB T) : EqB T' := by
  have : T = T' := by funext e c; exact propext (hT e c)
  exact this ▸ h
structure SpSz (Sp : List Pt) : Prop where
  ne : Sp ≠ []
  ln : Sp.length ≤ 1000
  sz : ∀ e ∈ Sp, Sm 500 e.1 ∧ Sm 1100 e.2
end Dl
namespace Dl
open PySem L2
def Thr (P : List Pc) (Sp : List Pt) : Prop := ∀ u w v, 1 ≤ v → (OkP P u w v ↔ SpA Sp u w v)
theorem ex_maxP (g : Pt → Int) : ∀ L : List Pt, L ≠ [] → ∃ e ∈ L, ∀ d ∈ L, g d ≤ g e
  | [], h => absurd rfl h
  | [a], _ => ⟨a, by simp, fun d h => by simp at h; subst h; exact Int.le_refl _⟩
  | a :: b :: r, _ => by
    obtain ⟨e, he, m⟩ := ex_maxP g (b :: r) (by simp)
    by_cases c : g e ≤ g a
    · exact ⟨a, by simp, fun d hd => by
        rcases List.mem_cons.mp hd with rfl | hd
        · exact Int.le_refl _
        · have := m d hd; omega⟩
    · exact ⟨e, List.mem_cons_of_mem _ he, fun d hd => by
        rcases List.mem_cons.mp hd with rfl | hd
        · omega
        · exact m d hd⟩
theorem Thr.slp {P : List Pc} {Sp : List Pt} (t : Thr P Sp) (ne : Sp ≠ []) {u v : Int} (v1 : 1 ≤ v) : SlP P u v ↔ SpC Sp u v := by
  constructor
  · rintro ⟨w, h⟩
    exact spc_of ((t u w v v1).mp h)
  · intro s
    obtain ⟨e, he, m⟩ := ex_maxP (fun e => v * e.2 - u * e.1) Sp ne
    exact ⟨_, (t u _ v v1).mpr (spa_of s m ⟨e, he, rfl⟩)⟩
theorem red_one {p q : Int} (q1 : 1 ≤ q) : ∃ g, 1 ≤ g ∧ p = g * (p / gcdI p q) ∧ q = g * (q / gcdI p q) ∧ 1 ≤ q / gcdI p q ∧ gcdI (p / gcdI p q) (q / gcdI p q) = 1 := by
  have g0 := gcdI_pos (a := p) q1
  obtain ⟨k, hk⟩ := gcdI_left p q
  obtain ⟨j, hj⟩ := gcdI_right p q
  have e1 : p / gcdI p q = k := by
    have : gcdI p q * k / gcdI p q = k := Int.mul_ediv_cancel_left _ (by omega)
    rw [← hk] at this
    exact this
  have e2 : q / gcdI p q = j := by
    have : gcdI p q * j / gcdI p q = j := Int.mul_ediv_cancel_left _ (by omega)
    rw [← hj] at this
    exact this
  have j1 : 1 ≤ j := by
    rcases Int.lt_or_le j 1 with c | c
    · have := Int.mul_le_mul_of_nonneg_left (show j ≤ 0 by omega) (show 0 ≤ gcdI p q by omega)
      rw [← hj, Int.mul_zero] at this
      omega
    · exact c
  refine ⟨gcdI p q, by omega, by rw [e1]; exact hk, by rw [e2]; exact hj, by omega, ?_⟩
  rw [e1, e2]
  have h := gcdI_mul (g := gcdI p q) (a := k) (b := j) (by omega)
  rw [← hk, ← hj] at h
  have h2 : gcdI p q * 1 = gcdI p q * gcdI k j := by rw [Int.mul_one]; exact h
  exact (Int.eq_of_mul_eq_mul_left (by omega) h2).symm
end Dl
namespace Dl
open PySem L2
def spL (x : Tr) (S m : Int) : Int := x.2.2 * m - S * x.1
def spLo (x : Tr) (l h S m : Int) : Int := S * x.2.1 - min (spL x S m * l) (spL x S m * h)
def spS (x : Tr) (l h S m : Int) : Int := -(-(spLo x l h S m) / x.2.2)
def SpM (x : Tr) (l h S m : Int) : Prop := x.2.2 * spS x l h S m < S * (x.2.1 + 1) - max (spL x S m * l) (spL x S m * h)
instance (x : Tr) (l h S m : Int) : Decidable (SpM x l h S m) := inferInstanceAs (Decidable (_ < _))
def SpN (x : Tr) (S m s n : Int) : Prop := S * x.2.1 ≤ x.2.2 * s + spL x S m * n ∧ x.2.2 * s + spL x S m * n < S * (x.2.1 + 1)
instance (x : Tr) (S m s n : Int) : Decidable (SpN x S m s n) := inferInstanceAs (Decidable (_ ∧ _))
section
variable {x : Tr} {l h S m s : Int} (o1 : 1 ≤ x.2.2) (hl : l < h) (S1 : 1 ≤ S)
include o1
include hl S1
end
end Dl
namespace Dl
open PySem L2
structure SpLst (x : Tr) (l h b m : Int) (k : Nat) : Prop where
  mem : SpM x l h (b ^ k) m
  min : ∀ m', SpM x l h (b ^ k) m' → m ≤ m'
  low : ∀ j < k, ∀ m', ¬ SpM x l h (b ^ j) m'
theorem SpLst.uniq {x : Tr} {l h b m m' : Int} {k k' : Nat} (a : SpLst x l h b m k) (c : SpLst x l h b m' k') : m = m' ∧ k = k' := by
  have e : k = k' := by
    rcases Nat.lt_trichotomy k k' with h | h | h
    · exact absurd a.mem (c.low k h m)
    · exact h
    · exact absurd c.mem (a.low k' h m')
  subst e
  have h1 := a.min _ c.mem
  have h2 := c.min _ a.mem
  exact ⟨by omega, rfl⟩
end Dl
namespace Dl
open PySem L2
end Dl
namespace Dl
open PySem L2
def tsP (x : Tr) (ns : List Int) : List Pt := ns.map fun n => (n, vl x n)
theorem atS_iff {u w v n f : Int} (v1 : 1 ≤ v) : vl (u, w, v) n = f ↔ v * f ≤ u * n + w ∧ u * n + w < v * (f + 1) := by
  rw [vl_iff (y := (u, w, v)) v1, Int.mul_add, Int.mul_one]
  simp only
  omega
def TsOk (p : Pc) (ns : List Int) : Prop := (p.2.1 = p.2.2 ∧ ns = [p.2.1]) ∨ (p.2.1 < p.2.2 ∧ Tests p.1 p.2.1 p.2.2 ns)
theorem TsOk.rng {p : Pc} {ns : List Int} (h : TsOk p ns) {n : Int} (hn : n ∈ ns) : p.2.1 ≤ n ∧ n ≤ p.2.2 := by
  rcases h with ⟨e, rfl⟩ | ⟨_, t⟩
  · simp at hn
    omega
  · exact t.rng hn
theorem TsOk.len {p : Pc} {ns : List Int} (h : TsOk p ns) : ns.length ≤ 4 := by
  rcases h with ⟨_, rfl⟩ | ⟨_, t⟩
  · simp
  · exact t.len
theorem TsOk.ne {p : Pc} {ns : List Int} (h : TsOk p ns) : ns ≠ [] := by
  rcases h with ⟨_, rfl⟩ | ⟨_, t⟩
  · simp
  · rintro rfl
    obtain ⟨J, u, v, z0, z1, o0, o1, _, _, _, e⟩ := t.of
    exact absurd ((e z0).mpr (by simp)) (by simp)
theorem TsOk.spa {p : Pc} {ns : List Int} (h : TsOk p ns) (o1 : 1 ≤ p.1.2.2) {u w v : Int} (v1 : 1 ≤ v) : Agr p.1 (u, w, v) p.2.1 p.2.2 ↔ SpA (tsP p.1 ns) u w v := by
  constructor
  · intro a e he
    obtain ⟨n, hn, rfl⟩ := List.mem_map.mp he
    obtain ⟨r1, r2⟩ := h.rng hn
    exact (atS_iff v1).mp (a n r1 r2).symm
  · intro sp
    have q : ∀ n ∈ ns, vl p.1 n = vl (u, w, v) n := fun n hn => ((atS_iff v1).mpr (sp (n, vl p.1 n) (List.mem_map.mpr ⟨n, hn, rfl⟩))).symm
    rcases h with ⟨e, rfl⟩ | ⟨lt, t⟩
    · intro n n1 n2
      obtain rfl : n = p.2.1 := by omega
      exact q _ (by simp)
    · exact t.agr (y := (u, w, v)) o1 v1 (Int.le_of_lt lt) q
structure SpT (P : List Pc) (Sp : List Pt) : Prop where
  thr : Thr P Sp
  of : ∀ e ∈ Sp, ∃ p ∈ P, p.2.1 ≤ e.1 ∧ e.1 ≤ p.2.2 ∧ e.2 = vl p.1 e.1
  one : ∀ p ∈ P, p.2.1 = p.2.2 → ((p.2.1, vl p.1 p.2.1) : Pt) ∈ Sp
  sl : ∀ p ∈ P, p.2.1 < p.2.2 → ∃ I, Slo p.1 p.2.1 p.2.2 I
  ln : Sp.length ≤ 4 * P.length
  ne : P ≠ [] → Sp ≠ []
theorem SpT.add {P : List Pc} {Sp : List Pt} {p : Pc} {ns : List Int} (s : SpT P Sp) (o1 : 1 ≤ p.1.2.2) (h : TsOk p ns) : SpT (P ++ [p]) (Sp ++ tsP p.1 ns) := by
  have tn : tsP p.1 ns ≠ [] := fun z => h.ne (by cases ns with | nil => rfl | cons _ _ => cases z)
  refine ⟨fun u w v v1 => ?_, fun e he => ?_, fun q hq e => ?_, fun q hq lt => ?_, ?_, fun _ => by simp [tn]⟩
  · constructor
    · intro a e he
      rcases List.mem_append.mp he with he | he
      · exact (s.thr u w v v1).mp (fun q hq => a q (List.mem_append_left _ hq)) e he
      · exact (h.spa o1 v1).mp (a p (by simp)) e he
    · intro a q hq
      rcases List.mem_append.mp hq with hq | hq
      · exact (s.thr u w v v1).mpr (fun e he => a e (List.mem_append_left _ he)) q hq
      · simp at hq
        subst hq
        exact (h.spa o1 v1).mpr fun e he => a e (List.mem_append_right _ he)
  · rcases List.mem_append.mp he with he | he
    · obtain ⟨q, hq, r⟩ := s.of e he
      exact ⟨q, List.mem_append_left _ hq, r⟩
    · obtain ⟨n, hn, rfl⟩ := List.mem_map.mp he
      obtain ⟨r1, r2⟩ := h.rng hn
      exact ⟨p, by simp, r1, r2, rfl⟩
  · rcases List.mem_append.mp hq with hq | hq
    · exact List.mem_append_left _ (s.one q hq e)
    · simp at hq
      subst hq
      rcases h with ⟨_, rfl⟩ | ⟨lt, _⟩
      · exact List.mem_append_right _ (by simp [tsP])
      · omega
  · rcases List.mem_append.mp hq with hq | hq
    · exact s.sl q hq lt
    · simp at hq
      subst hq
      rcases h with ⟨e, _⟩ | ⟨_, t⟩
      · omega
      · obtain ⟨I, _, _, _, _, _, _, sI, _⟩ := t.of
        exact ⟨I, sI⟩
  · have := h.len
    have := s.ln
    rw [List.length_append, List.length_append]
    unfold tsP
    rw [List.length_map, List.length_singleton]
    omega
theorem SpT.slp {P : List Pc} {Sp : List Pt} (t : SpT P Sp) (o1 : ∀ p ∈ P, 1 ≤ p.1.2.2) (al : ∀ u v, 1 ≤ v → SlP P u v) : ∀ p ∈ P, ¬ p.2.1 < p.2.2 := fun p hp lt => by
  obtain ⟨I, sI⟩ := t.sl p hp lt
  refine (cov_some (o1 p hp) lt sI (cov_all p.1 p.2.1 p.2.2)).2 fun u v v1 => ?_
  obtain ⟨w, ok⟩ := al u v v1
  exact ⟨w, fun q hq => by simp at hq; subst hq; exact ok p hp⟩
end Dl
namespace Dl
open PySem L2
abbrev Br := Int × Nat × Int × Nat
def brD (b : Br) : D := .tup [.int b.1, .int b.2.1, .int b.2.2.1, .int b.2.2.2]
structure BrOk (P : List Pc) (b : Br) (p q : Pc) : Prop where
  i : P[b.2.1]? = some p
  a0 : p.2.1 ≤ b.1
  a1 : b.1 ≤ p.2.2
  j : P[b.2.2.2]? = some q
  b0 : q.2.1 ≤ b.2.2.1
  b1 : b.2.2.1 ≤ q.2.2
def brd (b : Br) : Int := b.2.2.1 - b.1
def bre (p q : Pc) (b : Br) : Int := vl q.1 b.2.2.1 - vl p.1 b.1 - 1
def brF (P : List Pc) : D → D
  | .tup [.int a, .int i, .int b, .int j] => .tup [.int (b - a), .int (vl (P[j.toNat]?.getD ((0, 0, 1), 0, 0)).1 b - vl (P[i.toNat]?.getD ((0, 0, 1), 0, 0)).1 a - 1)]
  | d => d
theorem brF_ok {P : List Pc} {b : Br} {p q : Pc} (ok : BrOk P b p q) : brF P (brD b) = .tup [.int (brd b), .int (bre p q b)] := by
  unfold brF brD brd bre
  simp only [Int.toNat_natCast, ok.i, ok.j, Option.getD_some]
theorem atI_pc {P : List Pc} {f : Pc → D} {i : Nat} {p : Pc} (h : P[i]? = some p) : atI (P.map f) (i : Int) = some (f p) := atI_nat (by rw [List.getElem?_map, h]; rfl)
def NevB (P : List Pc) (b c : Br) : Prop := ∃ p q p2 q2, BrOk P b p q ∧ BrOk P c p2 q2 ∧ ((brd b = 0 ∧ 0 ≤ bre p q b) ∨ (0 < brd b ∧ brd c < 0 ∧ bre p q b * brd c ≤ bre p2 q2 c * brd b))
theorem bar_ok {P : List Pc} {L U : List Co} (C : CorN P P.length L U) {e c : Co} (he : e ∈ L) (hc : c ∈ U) : ∃ p q, BrOk P (c.1, c.2.2, e.1, e.2.2) p q ∧ bre p q (c.1, c.2.2, e.1, e.2.2) = e.2.1 - c.2.1 - 1 := by
  obtain ⟨_, q, hq, q1, q2, q3⟩ := C.lm e he
  obtain ⟨_, p, hp, p1, p2, p3⟩ := C.um c hc
  exact ⟨p, q, ⟨hp, p1, p2, hq, q1, q2⟩, by unfold bre; simp only; rw [← q3, ← p3]⟩
theorem nev_bar {P : List Pc} {L U : List Co} (C : CorN P P.length L U) {e c : Co} (n : Nev1 (fun e c => e ∈ L ∧ c ∈ U) (some (e, c))) : NevB P (c.1, c.2.2, e.1, e.2.2) (c.1, c.2.2, e.1, e.2.2) := by
  obtain ⟨⟨he, hc⟩, h1, h2⟩ := n
  obtain ⟨p, q, ok, ev⟩ := bar_ok C he hc
  refine ⟨p, q, p, q, ok, ok, .inl ⟨?_, ?_⟩⟩
  · unfold brd; simp only; omega
  · rw [ev]; omega
theorem two_bars {P : List Pc} {L U : List Co} (C : CorN P P.length L U) {p q p2 q2 : Int} {e c e2 c2 : Co} (f : Fst1 (fun e c => e ∈ L ∧ c ∈ U) (some (p, q, e, c))) (s : Snd1 (fun e c => e ∈ L ∧ c ∈ U) (some (p2, q2, e2, c2))) (no : ¬ p * q2 < p2 * q) : NevB P (c.1, c.2.2, e.1, e.2.2) (c2.1, c2.2.2, e2.1, e2.2.2) := by
  obtain ⟨⟨he, hc⟩, l1, f1, _⟩ := f
  obtain ⟨⟨he2, hc2⟩, l2, s1, _⟩ := s
  obtain ⟨a, b, ok, ev⟩ := bar_ok C he hc
  obtain ⟨a2, b2, ok2, ev2⟩ := bar_ok C he2 hc2
  refine ⟨a, b, a2, b2, ok, ok2, .inr ⟨?_, ?_, ?_⟩⟩
  · unfold brd; simp only; omega
  · unfold brd; simp only; omega
  rw [ev, ev2]
  unfold brd
  simp only
  obtain ⟨g, g1, x1, y1, _⟩ := red_one (p := e.2.1 - c.2.1 - 1) (q := e.1 - c.1) (by omega)
  obtain ⟨k, k1, x2, y2, _⟩ := red_one (p := c2.2.1 + 1 - e2.2.1) (q := c2.1 - e2.1) (by omega)
  have F1 : p = (e.2.1 - c.2.1 - 1) / gcdI (e.2.1 - c.2.1 - 1) (e.1 - c.1) := (Prod.mk.inj f1).1
  have F2 : q = (e.1 - c.1) / gcdI (e.2.1 - c.2.1 - 1) (e.1 - c.1) := (Prod.mk.inj f1).2
  have S1 : p2 = (c2.2.1 + 1 - e2.2.1) / gcdI (c2.2.1 + 1 - e2.2.1) (c2.1 - e2.1) := (Prod.mk.inj s1).1
  have S2 : q2 = (c2.1 - e2.1) / gcdI (c2.2.1 + 1 - e2.2.1) (c2.1 - e2.1) := (Prod.mk.inj s1).2
  rw [← F1] at x1
  rw [← F2] at y1
  rw [← S1] at x2
  rw [← S2] at y2
  have m := Int.mul_le_mul_of_nonneg_left (show p2 * q ≤ p * q2 by omega) (show 0 ≤ g * k from Int.mul_nonneg (by omega) (by omega))
  have z1 : (e.2.1 - c.2.1 - 1) * (e2.1 - c2.1) = -(g * k * (p * q2)) := by
    rw [show e2.1 - c2.1 = -(c2.1 - e2.1) by omega, y2, x1]; grind
  have z2 : (e2.2.1 - c2.2.1 - 1) * (e.1 - c.1) = -(g * k * (p2 * q)) := by
    rw [show e2.2.1 - c2.2.1 - 1 = -(c2.2.1 + 1 - e2.2.1) by omega, x2, y1]; grind
  rw [z1, z2]
  omega
end Dl
namespace Dl
open PySem L2
theorem okS_app (x y : Str) : PyData.strOk (x ++ y) = (PyData.strOk x && PyData.strOk y) := by
  unfold PyData.strOk
  rw [Str.cps_append, Array.all_append]
theorem okS_of (s : String) : PyData.strOk (Str.ofString s) = true := by
  unfold PyData.strOk
  rw [Str.ofString_eq_toList]
  simp only [List.all_toArray, List.all_map, List.all_eq_true]
  intro c _
  have h := c.valid
  simp only [Function.comp, decide_eq_true_eq]
  show c.val.toNat < 1114112
  rcases h with h | h <;> omega
theorem len_int {i : Int} {n : Nat} (h : Sm n i) (h0 : 0 < n) : (Str.ofString (toString i)).length ≤ n + 1 := by
  rw [ofString_length]
  exact int_text_length_le h0 (h.log h0)
theorem fit3k {x : Str} (h : x.length ≤ 30000) : x.length ≤ sizeLine := by rw [sizeLine_eq]; omega
def ShS (d : D) : Prop := ∃ p, ShowOk d p ∧ PyData.strOk p.shown = true
def okSh (d : D) : Bool := match toR d with
  | some p => p.showable && (decide (p.shown.length ≤ 1000) && (decide (p.depth ≤ 50) && ((!p.hasDict || noLst d) && PyData.strOk p.shown)))
  | none => false
theorem okSh_ok {d : D} (h : okSh d = true) : ShS d := by
  unfold okSh at h
  split at h
  · rename_i p e
    simp only [Bool.and_eq_true, Bool.or_eq_true, Bool.not_eq_true', decide_eq_true_eq] at h
    obtain ⟨h1, h2, h3, h4, h5⟩ := h
    exact ⟨p, ⟨e, h1, fit3k (by omega), by omega, h4⟩, h5⟩
  · cases h
end Dl
namespace Dl
open PySem L2
structure LnSh (S : DSp) (txt : Int × Int × Int → Str) : Prop where
  sh : ∀ (x : Int × Int × Int) (M : Mem), Sm 900 x.1 → Sm 900 x.2.1 → Sm 900 x.2.2 → S [.ln x.1 x.2.1 x.2.2] M (fun e M' => e = .str (txt x) ∧ M' = M) noX
  len : ∀ x : Int × Int × Int, Sm 900 x.1 → Sm 900 x.2.1 → Sm 900 x.2.2 → (txt x).length ≤ 2800
  ok : ∀ x, PyData.strOk (txt x) = true
structure GX (txt : Int × Int × Int → Str) (d : D) (n : Nat) : Prop where
  ok : okX d = true
  ln : ∀ x ∈ lnsX d, Sm 900 x.1 ∧ Sm 900 x.2.1 ∧ Sm 900 x.2.2
  len : (shX txt d).length ≤ n
  st : PyData.strOk (shX txt d) = true
section
variable {S : DSp} {txt : Int × Int × Int → Str}
theorem gx_int {i : Int} (h : Sm 900 i) : GX txt (.int i) 901 :=
  ⟨by show decide (i.natAbs.log2 < 1920) = true
      exact decide_eq_true (Nat.lt_of_lt_of_le (h.log (by decide)) (by decide)), fun x hx => (by simp [lnsX] at hx), len_int h (by decide), okS_of _⟩
theorem gx_of {d : D} {n : Nat} (h : (okX d && ((lnsX d).isEmpty && (decide ((shX txt d).length ≤ n) && PyData.strOk (shX txt d)))) = true) : GX txt d n := by
  simp only [Bool.and_eq_true, decide_eq_true_eq, List.isEmpty_iff] at h
  exact ⟨h.1, fun x hx => (by rw [h.2.1] at hx; cases hx), h.2.2.1, h.2.2.2⟩
theorem GX.le {d : D} {n m : Nat} (h : GX txt d n) (k : n ≤ m) : GX txt d m := ⟨h.ok, h.ln, Nat.le_trans h.len k, h.st⟩
theorem gx_tup2 {a b : D} {n m : Nat} (ha : GX txt a n) (hb : GX txt b m) : GX txt (.tup [a, b]) (n + m + 4) := by
  have e : shX txt (.tup [a, b]) = (Str.ofString "(" ++ (shX txt a ++ Str.ofString ", " ++ shX txt b)) ++ Str.ofString ")" := by
    simp only [shX, shXL]
    rfl
  have a1 : (Str.ofString "(").length = 1 := by decide +kernel
  have a2 : (Str.ofString ", ").length = 2 := by decide +kernel
  have a3 : (Str.ofString ")").length = 1 := by decide +kernel
  have l1 := ha.len
  have l2 := hb.len
  refine ⟨by simp [okX, okXL, ha.ok, hb.ok], fun x hx => ?_, ?_, ?_⟩
  · simp only [lnsX, lnsXL, List.append_nil, List.mem_append] at hx
    exact hx.elim (ha.ln x) (hb.ln x)
  · rw [e]
    simp only [Str.length_append, a1, a2, a3]
    omega
  · rw [e]
    simp only [okS_app, okS_of, ha.st, hb.st, Bool.and_true]
theorem gx_tup3 {a b c : D} {n m k : Nat} (ha : GX txt a n) (hb : GX txt b m) (hc : GX txt c k) : GX txt (.tup [a, b, c]) (n + m + k + 6) := by
  have e : shX txt (.tup [a, b, c]) = (Str.ofString "(" ++ (shX txt a ++ Str.ofString ", " ++ (shX txt b ++ Str.ofString ", " ++ shX txt c))) ++ Str.ofString ")" := by
    simp only [shX, shXL]
    rfl
  have a1 : (Str.ofString "(").length = 1 := by decide +kernel
  have a2 : (Str.ofString ", ").length = 2 := by decide +kernel
  have a3 : (Str.ofString ")").length = 1 := by decide +kernel
  have l1 := ha.len
  have l2 := hb.len
  have l3 := hc.len
  refine ⟨by simp [okX, okXL, ha.ok, hb.ok, hc.ok], fun x hx => ?_, ?_, ?_⟩
  · simp only [lnsX, lnsXL, List.append_nil, List.mem_append] at hx
    exact hx.elim (ha.ln x) (fun hx => hx.elim (hb.ln x) (hc.ln x))
  · rw [e]
    simp only [Str.length_append, a1, a2, a3]
    omega
  · rw [e]
    simp only [okS_app, okS_of, ha.st, hb.st, hc.st, Bool.and_true]
theorem gx_tup4 {a b c e : D} {n m k j : Nat} (ha : GX txt a n) (hb : GX txt b m) (hc : GX txt c k) (he : GX txt e j) : GX txt (.tup [a, b, c, e]) (n + m + k + j + 8) := by
  have q : shX txt (.tup [a, b, c, e]) = (Str.ofString "(" ++ (shX txt a ++ Str.ofString ", " ++ (shX txt b ++ Str.ofString ", " ++ (shX txt c ++ Str.ofString ", " ++ shX txt e)))) ++ Str.ofString ")" := by
    simp only [shX, shXL]
    rfl
  have a1 : (Str.ofString "(").length = 1 := by decide +kernel
  have a2 : (Str.ofString ", ").length = 2 := by decide +kernel
  have a3 : (Str.ofString ")").length = 1 := by decide +kernel
  have l1 := ha.len
  have l2 := hb.len
  have l3 := hc.len
  have l4 := he.len
  refine ⟨by simp [okX, okXL, ha.ok, hb.ok, hc.ok, he.ok], fun x hx => ?_, ?_, ?_⟩
  · simp only [lnsX, lnsXL, List.append_nil, List.mem_append] at hx
    exact hx.elim (ha.ln x) (fun hx => hx.elim (hb.ln x) (fun hx => hx.elim (hc.ln x) (he.ln x)))
  · rw [q]
    simp only [Str.length_append, a1, a2, a3]
    omega
  · rw [q]
    simp only [okS_app, okS_of, ha.st, hb.st, hc.st, he.st, Bool.and_true]
def ShU (S : DSp) (d : D) : Prop := ∃ t, PyData.strOk t = true ∧ ((∃ p, ShowOk d p ∧ t = p.shown) ∨ ∀ M, ShowX S M d t)
theorem GX.shu (L : LnSh S txt) {d : D} {n : Nat} (h : GX txt d n) (hn : n ≤ 30000) (hc : conX d = true) (hd : depX d ≤ 6) : ShU S d :=
  ⟨shX txt d, h.st, .inr fun M => ⟨hc, h.ok, hd, fit3k (Nat.le_trans h.len hn), txt, rfl, fun x hx => let ⟨a, b, c⟩ := h.ln x hx; L.sh x M a b c⟩⟩
theorem ShS.shu {d : D} (h : ShS d) : ShU S d := let ⟨p, a, b⟩ := h; ⟨p.shown, b, .inl ⟨p, a, rfl⟩⟩
theorem shu_x {d : D} {M : Mem} {R : DR} {t : Str} (h : (∃ p, ShowOk d p ∧ t = p.shown) ∨ ∀ M, ShowX S M d t) (k : R (.str t) M) : oReprX S [d] M R := by
  rcases h with ⟨p, sh, rfl⟩ | h
  · exact .inl ⟨p, sh, k⟩
  · exact .inr ⟨t, h M, k⟩
end
end Dl
namespace Dl
open PySem L2
def RgOk (a b : D) : Prop := ∃ i j : Int, a = .int i ∧ b = .int j ∧ i < j
theorem pure2 {a b : D} (h : pureD a = true) (k : pureD b = true) : pureD (.tup [a, b]) = true := by simp [pureD, pureL, h, k]
structure NoLn (x : D) : Prop where
  ty : tyL x = true
  ln : isLn x = false
  pu : pureD x = true
structure NoRg (l h : D) : Prop where
  tl : tyL l = true
  th : tyL h = true
  rg : ¬ RgOk l h
  pl : pureD l = true
  ph : pureD h = true
theorem NoRg.pu {l h : D} (n : NoRg l h) : pureD (.tup [l, h]) = true := pure2 n.pl n.ph
inductive Door : D → D → D → Str → D → Prop
  | ln {x l h : D} : NoLn x → Door x l h "InvalidLine" x
  | rg {x : Tr} {l h : D} : NoRg l h → Door (trL x) l h "InvalidRange" (.tup [l, h])
theorem Door.pu {x l h o : D} {c : Str} (d : Door x l h c o) : pureD o = true := by
  cases d with
  | ln n => exact n.pu
  | rg n => exact n.pu
inductive Door2 : D → D → D → D → Str → D → Prop
  | a {x y l h : D} : NoLn x → Door2 x y l h "InvalidLine" x
  | b {x : Tr} {y l h : D} : NoLn y → Door2 (trL x) y l h "InvalidLine" y
  | rg {x y : Tr} {l h : D} : NoRg l h → Door2 (trL x) (trL y) l h "InvalidRange" (.tup [l, h])
theorem Door2.pu {x y l h o : D} {c : Str} (d : Door2 x y l h c o) : pureD o = true := by
  cases d with
  | a n => exact n.pu
  | b n => exact n.pu
  | rg n => exact n.pu
def badN (l h : Int) : D → Bool
  | .int i => decide (i < l) || decide (h < i)
  | _ => true
structure NoNum (l h : Int) (d : D) : Prop where
  ty : tyL d = true
  pu : pureD d = true
  no : ∀ es, d = .lst es → es.length ≤ 1000 ∧ (∀ e ∈ es, tyL e = true ∧ pureD e = true) ∧ ∃ e ∈ es, badN l h e = true
inductive Door3 : D → D → D → D → Str → D → Prop
  | d {x l h n o : D} {c : Str} : Door x l h c o → Door3 x l h n c o
  | n {x : Tr} {l h : Int} {n : D} : l < h → NoNum l h n → Door3 (trL x) (.int l) (.int h) n "InvalidList" n
theorem Door3.pu {x l h n o : D} {c : Str} (d : Door3 x l h n c o) : pureD o = true := by
  cases d with
  | d n => exact n.pu
  | n _ n => exact n.pu
section
variable {g : DG} {t : DT} {e : DE} {va : DA} {vs : List Nat} {γ : Gm} {M M1 : Mem} {R : DR} (c : D → Bool) (f : D → D)
end
def TxtOk (S : DSp) (d : D) (t : Str) : Prop := PyData.strOk t = true ∧ ((∃ p, ShowOk d p ∧ t = p.shown) ∨ ∀ M, ShowX S M d t)
theorem TxtOk.x {S : DSp} {d : D} {M : Mem} {R : DR} {t : Str} (h : TxtOk S d t) (k : R (.str t) M) : oReprX S [d] M R := shu_x h.2 k
theorem tf_len {n : Nat} : ∀ (ts : List Str) (k : Nat) (acc : Str), (∀ t ∈ ts, t.length ≤ n) → (PySem.textFrom k acc ts).length ≤ acc.length + ts.length * (n + 2)
  | [], k, acc, _ => by show acc.length ≤ _; omega
  | t :: ts, k, acc, h => by
    have a2 : (Str.ofString ", ").length = 2 := by decide +kernel
    have a0 : (Str.ofString "").length = 0 := by decide +kernel
    have ih := tf_len ts (k + 1) (acc ++ (if k > 0 then ", " else "" : String) ++ t) (fun u hu => h u (List.mem_cons_of_mem _ hu))
    have ht := h t List.mem_cons_self
    show (PySem.textFrom (k + 1) (acc ++ (if k > 0 then ", " else "" : String) ++ t) ts).length ≤ _
    have e : (acc ++ Str.ofString (if k > 0 then ", " else "" : String) ++ t).length ≤ acc.length + (n + 2) := by
      simp only [Str.length_append]
      split
      · rw [a2]; omega
      · rw [a0]; omega
    have g : (ts.length + 1) * (n + 2) = ts.length * (n + 2) + (n + 2) := by rw [Nat.succ_mul]
    rw [List.length_cons, g]
    have e' := Nat.le_trans ih (Nat.add_le_add_right e _)
    omega
theorem tf_ok : ∀ (ts : List Str) (k : Nat) (acc : Str), PyData.strOk acc = true → (∀ t ∈ ts, PyData.strOk t = true) → PyData.strOk (PySem.textFrom k acc ts) = true
  | [], _, acc, h, _ => h
  | t :: ts, k, acc, h, ht => by
    refine tf_ok ts (k + 1) (acc ++ (if k > 0 then ", " else "" : String) ++ t) ?_ (fun u hu => ht u (List.mem_cons_of_mem _ hu))
    rw [okS_app, okS_app, h, ht t List.mem_cons_self]
    show (true && PyData.strOk (Str.ofString (if k > 0 then ", " else "" : String)) && true) = true
    rw [okS_of]
    rfl
section
variable {txt : Int × Int × Int → Str}
theorem shXL_memN : ∀ {ds : List D} {t : Str}, t ∈ shXL txt ds → ∃ d ∈ ds, t = shX txt d
  | d :: ds, t, h => by
    unfold shXL at h
    rcases List.mem_cons.mp h with h | h
    · exact ⟨d, List.mem_cons_self, h⟩
    · obtain ⟨e, he, k⟩ := shXL_memN h
      exact ⟨e, List.mem_cons_of_mem _ he, k⟩
theorem shXL_len : ∀ (ds : List D), (shXL txt ds).length = ds.length
  | [] => rfl
  | d :: ds => by unfold shXL; rw [List.length_cons, List.length_cons, shXL_len ds]
theorem okXL_of : ∀ {ds : List D}, (∀ d ∈ ds, okX d = true) → okXL ds = true
  | [], _ => rfl
  | d :: ds, h => by
    unfold okXL
    rw [h d List.mem_cons_self, okXL_of (fun e he => h e (List.mem_cons_of_mem _ he))]
    rfl
theorem lnsXL_mem : ∀ {ds : List D} {x : Int × Int × Int}, x ∈ lnsXL ds → ∃ d ∈ ds, x ∈ lnsX d
  | d :: ds, x, h => by
    unfold lnsXL at h
    rcases List.mem_append.mp h with h | h
    · exact ⟨d, List.mem_cons_self, h⟩
    · obtain ⟨e, he, k⟩ := lnsXL_mem h
      exact ⟨e, List.mem_cons_of_mem _ he, k⟩
theorem gx_lstN {es : List D} {n : Nat} (h : ∀ e ∈ es, GX txt e n) : GX txt (.lst es) (es.length * (n + 2) + 2) := by
  have a1 : (Str.ofString "[").length = 1 := by decide +kernel
  have a3 : (Str.ofString "]").length = 1 := by decide +kernel
  have e : shX txt (.lst es) = PySem.textFrom 0 (Str.ofString "[") (shXL txt es) ++ Str.ofString "]" := by
    simp only [shX]
    rfl
  refine ⟨?_, fun x hx => ?_, ?_, ?_⟩
  · show okXL es = true
    exact okXL_of fun d hd => (h d hd).ok
  · obtain ⟨d, hd, k⟩ := lnsXL_mem (show x ∈ lnsXL es from hx)
    exact (h d hd).ln x k
  · rw [e, Str.length_append, a3]
    have := tf_len (n := n) (shXL txt es) 0 (Str.ofString "[") (fun t ht => by obtain ⟨d, hd, rfl⟩ := shXL_memN ht; exact (h d hd).len)
    rw [a1, shXL_len] at this
    omega
  · rw [e, okS_app, okS_of, tf_ok (shXL txt es) 0 (Str.ofString "[") (okS_of _) (fun t ht => by obtain ⟨d, hd, rfl⟩ := shXL_memN ht; exact (h d hd).st)]
    rfl
theorem gx_intN {i : Int} {n : Nat} (h : Sm n i) (h0 : 0 < n) (h1 : n ≤ 900) : GX txt (.int i) (n + 1) := ⟨(gx_int (txt := txt) (h.mono h1)).ok, (gx_int (txt := txt) (h.mono h1)).ln, len_int h h0, okS_of _⟩
end
end Dl
namespace Dl
open PySem L2
structure CerP (x : Tr) (l h S k a b c d : Int) : Prop where
  a0 : l ≤ a
  ab : a < b
  b0 : b ≤ h
  c0 : l ≤ c
  cd : c < d
  d0 : d ≤ h
  le : k * (b - a) ≤ S * (vl x b - vl x a - 1)
  ge : S * (vl x d - vl x c + 1) ≤ (k + 1) * (d - c)
end Dl
namespace Dl
open PySem L2
end Dl
namespace Dl
open PySem L2
structure En where
  p : Int
  q : Int
  al : Bool
  n : Int
structure EnOk (e : En) : Prop where
  q1 : 1 ≤ e.q
  c : gcdI e.p e.q = 1
  sp : Sm 1003 e.p
  sq : Sm 501 e.q
def LoC (e : En) (u v : Int) : Prop := (e.al = true → e.p * v ≤ u * e.q) ∧ (e.al = false → e.p * v < u * e.q)
def UpC (e : En) (u v : Int) : Prop := (e.al = true → u * e.q ≤ e.p * v) ∧ (e.al = false → u * e.q < e.p * v)
def LoA (y : Tr) (L H u v : Int) : Prop := ∀ n, L ≤ n → n ≤ H → (0 < n → v * vl y n ≤ u * n) ∧ (n < 0 → u * n < v * (vl y n + 1))
def UpA (y : Tr) (L H u v : Int) : Prop := ∀ n, L ≤ n → n ≤ H → (0 < n → u * n < v * (vl y n + 1)) ∧ (n < 0 → v * vl y n ≤ u * n)
structure MostR (y : Tr) (A B p q n : Int) : Prop where
  n0 : A ≤ n
  n1 : n ≤ B
  q1 : 1 ≤ q
  c : gcdI p q = 1
  qb : q ≤ n
  at_ : p * n = q * vl y n
  le : ∀ m, A ≤ m → m ≤ B → q * vl y m ≤ p * m
structure LeastR (y : Tr) (A B p q n : Int) : Prop where
  n0 : A ≤ n
  n1 : n ≤ B
  q1 : 1 ≤ q
  c : gcdI p q = 1
  qb : q ≤ n
  at_ : p * n = q * (vl y n + 1)
  le : ∀ m, A ≤ m → m ≤ B → p * m ≤ q * (vl y m + 1)
theorem MostR.one {y : Tr} {A B p q n u v : Int} (r : MostR y A B p q n) (A1 : 1 ≤ A) (h : v * vl y n ≤ u * n) : p * v ≤ u * q := by
  have n0 := r.n0
  have q1 := r.q1
  have a := Int.mul_le_mul_of_nonneg_left h (show 0 ≤ q by omega)
  have e : p * v * n = q * (v * vl y n) := by have := r.at_; grind
  have e2 : u * q * n = q * (u * n) := by grind
  exact Int.le_of_mul_le_mul_right (a := n) (by omega) (by omega)
theorem MostR.iff {y : Tr} {A B p q n u v : Int} (r : MostR y A B p q n) (A1 : 1 ≤ A) (v1 : 1 ≤ v) : (∀ m, A ≤ m → m ≤ B → v * vl y m ≤ u * m) ↔ p * v ≤ u * q := by
  refine ⟨fun h => r.one A1 (h n r.n0 r.n1), fun h m m0 m1 => ?_⟩
  have q1 := r.q1
  have a := Int.mul_le_mul_of_nonneg_left (r.le m m0 m1) (show 0 ≤ v by omega)
  have b := Int.mul_le_mul_of_nonneg_right h (show 0 ≤ m by omega)
  have e1 : v * vl y m * q = v * (q * vl y m) := by grind
  have e2 : v * (p * m) = p * v * m := by grind
  have e3 : u * m * q = u * q * m := by grind
  exact Int.le_of_mul_le_mul_right (a := q) (by omega) (by omega)
theorem LeastR.one {y : Tr} {A B p q n u v : Int} (r : LeastR y A B p q n) (A1 : 1 ≤ A) (h : u * n < v * (vl y n + 1)) : u * q < p * v := by
  have n0 := r.n0
  have q1 := r.q1
  have a := Int.mul_lt_mul_of_pos_left h (show 0 < q by omega)
  have e : p * v * n = q * (v * (vl y n + 1)) := by have := r.at_; grind
  have e2 : u * q * n = q * (u * n) := by grind
  exact Int.lt_of_mul_lt_mul_right (a := n) (by omega) (by omega)
theorem LeastR.iff {y : Tr} {A B p q n u v : Int} (r : LeastR y A B p q n) (A1 : 1 ≤ A) (v1 : 1 ≤ v) : (∀ m, A ≤ m → m ≤ B → u * m < v * (vl y m + 1)) ↔ u * q < p * v := by
  refine ⟨fun h => r.one A1 (h n r.n0 r.n1), fun h m m0 m1 => ?_⟩
  have q1 := r.q1
  have a := Int.mul_le_mul_of_nonneg_left (r.le m m0 m1) (show 0 ≤ v by omega)
  have b := Int.mul_lt_mul_of_pos_right h (show 0 < m by omega)
  have e1 : v * (vl y m + 1) * q = v * (q * (vl y m + 1)) := by grind
  have e2 : v * (p * m) = p * v * m := by grind
  have e3 : u * m * q = u * q * m := by grind
  exact Int.lt_of_mul_lt_mul_right (a := q) (by omega) (by omega)
theorem MostR.neg {y z : Tr} {A B p q n : Int} (r : MostR z A B p q n) (e : ∀ m, vl z m = -(vl y m + 1)) : LeastR y A B (-p) q n := by
  refine ⟨r.n0, r.n1, r.q1, ?_, r.qb, ?_, fun m m0 m1 => ?_⟩
  · have := r.c
    unfold gcdI at this ⊢
    simpa using this
  · have := r.at_
    rw [e] at this
    grind
  · have := r.le m m0 m1
    rw [e] at this
    grind
structure LoOk (y : Tr) (L H a : Int) (e : En) : Prop where
  ok : EnOk e
  iff : ∀ u v, 1 ≤ v → (LoA y L H u v ↔ LoC e u v)
  r0 : L ≤ e.n + a
  r1 : e.n + a ≤ H
  nz : e.n + a ≠ 0
  at_ : ∀ u v, 1 ≤ v → v * vl y (e.n + a) ≤ u * (e.n + a) → u * (e.n + a) < v * (vl y (e.n + a) + 1) → LoC e u v
  qn : e.q ≤ e.n + a ∨ e.q ≤ -(e.n + a)
structure UpOk (y : Tr) (L H a : Int) (e : En) : Prop where
  ok : EnOk e
  iff : ∀ u v, 1 ≤ v → (UpA y L H u v ↔ UpC e u v)
  r0 : L ≤ e.n + a
  r1 : e.n + a ≤ H
  nz : e.n + a ≠ 0
  at_ : ∀ u v, 1 ≤ v → v * vl y (e.n + a) ≤ u * (e.n + a) → u * (e.n + a) < v * (vl y (e.n + a) + 1) → UpC e u v
  qn : e.q ≤ e.n + a ∨ e.q ≤ -(e.n + a)
theorem lo_uniq {e f : En} (he : EnOk e) (hf : EnOk f) (h : ∀ u v, 1 ≤ v → (LoC e u v ↔ LoC f u v)) : e.p = f.p ∧ e.q = f.q ∧ e.al = f.al := by
  have q1 := he.q1
  have q2 := hf.q1
  have key : ∀ {e f : En}, EnOk e → EnOk f → (∀ u v, 1 ≤ v → (LoC e u v ↔ LoC f u v)) → ¬ e.p * f.q < f.p * e.q := fun {e f} he hf h lt => by
    have q1 := he.q1
    have q2 := hf.q1
    have m : LoC e (e.p + f.p) (e.q + f.q) := by
      have : e.p * (e.q + f.q) < (e.p + f.p) * e.q := by rw [Int.mul_add, Int.add_mul]; omega
      exact ⟨fun _ => Int.le_of_lt this, fun _ => this⟩
    have m2 := (h _ _ (by omega)).mp m
    have m3 : f.p * (e.q + f.q) ≤ (e.p + f.p) * f.q := by
      cases z : f.al with
      | true => exact m2.1 z
      | false => exact Int.le_of_lt (m2.2 z)
    rw [Int.mul_add, Int.add_mul] at m3
    omega
  have a := key he hf h
  have b := key hf he fun u v v1 => (h u v v1).symm
  obtain ⟨e1, e2⟩ := cop_eq he.c hf.c he.q1 hf.q1 (by omega)
  refine ⟨e1, e2, ?_⟩
  cases z : e.al with
  | true =>
    cases y : f.al with
    | true => rfl
    | false =>
      have : LoC e e.p e.q := ⟨fun _ => Int.le_refl _, fun x => by rw [z] at x; cases x⟩
      have := ((h _ _ q1).mp this).2 y
      rw [← e1, ← e2] at this
      omega
  | false =>
    cases y : f.al with
    | false => rfl
    | true =>
      have : LoC f f.p f.q := ⟨fun _ => Int.le_refl _, fun x => by rw [y] at x; cases x⟩
      have := ((h _ _ q2).mpr this).2 z
      rw [← e1, ← e2] at this
      omega
theorem up_uniq {e f : En} (he : EnOk e) (hf : EnOk f) (h : ∀ u v, 1 ≤ v → (UpC e u v ↔ UpC f u v)) : e.p = f.p ∧ e.q = f.q ∧ e.al = f.al := by
  have q1 := he.q1
  have q2 := hf.q1
  have key : ∀ {e f : En}, EnOk e → EnOk f → (∀ u v, 1 ≤ v → (UpC e u v ↔ UpC f u v)) → ¬ f.p * e.q < e.p * f.q := fun {e f} he hf h lt => by
    have q1 := he.q1
    have q2 := hf.q1
    have m : UpC e (e.p + f.p) (e.q + f.q) := by
      have : (e.p + f.p) * e.q < e.p * (e.q + f.q) := by rw [Int.mul_add, Int.add_mul]; omega
      exact ⟨fun _ => Int.le_of_lt this, fun _ => this⟩
    have m2 := (h _ _ (by omega)).mp m
    have m3 : (e.p + f.p) * f.q ≤ f.p * (e.q + f.q) := by
      cases z : f.al with
      | true => exact m2.1 z
      | false => exact Int.le_of_lt (m2.2 z)
    rw [Int.mul_add, Int.add_mul] at m3
    omega
  have a := key he hf h
  have b := key hf he fun u v v1 => (h u v v1).symm
  obtain ⟨e1, e2⟩ := cop_eq he.c hf.c he.q1 hf.q1 (by omega)
  refine ⟨e1, e2, ?_⟩
  cases z : e.al with
  | true =>
    cases y : f.al with
    | true => rfl
    | false =>
      have : UpC e e.p e.q := ⟨fun _ => Int.le_refl _, fun x => by rw [z] at x; cases x⟩
      have := ((h _ _ q1).mp this).2 y
      rw [← e1, ← e2] at this
      omega
  | false =>
    cases y : f.al with
    | false => rfl
    | true =>
      have : UpC f f.p f.q := ⟨fun _ => Int.le_refl _, fun x => by rw [y] at x; cases x⟩
      have := ((h _ _ q2).mpr this).2 z
      rw [← e1, ← e2] at this
      omega
def laM (e : En) (S : Int) : Int := if e.al then -(-e.p * S / e.q) else e.p * S / e.q + 1
def mbM (e : En) (S : Int) : Int := if e.al then e.p * S / e.q else -(-e.p * S / e.q) - 1
theorem la_iff {e : En} {m S : Int} (q1 : 1 ≤ e.q) : LoC e m S ↔ laM e S ≤ m := by
  unfold LoC laM
  cases z : e.al with
  | true =>
    rw [if_pos rfl]
    have k : -m ≤ -e.p * S / e.q ↔ -m * e.q ≤ -e.p * S := Int.le_ediv_iff_mul_le (by omega)
    rw [Int.neg_mul, Int.neg_mul] at k
    rw [Int.neg_mul]
    constructor
    · rintro ⟨h, _⟩
      have := k.mpr (by have := h rfl; omega)
      omega
    · intro h
      have := k.mp (by omega)
      exact ⟨fun _ => (by omega), fun x => (by cases x)⟩
  | false =>
    rw [if_neg (by simp)]
    have k : e.p * S / e.q < m ↔ e.p * S < m * e.q := Int.ediv_lt_iff_lt_mul (by omega)
    constructor
    · rintro ⟨_, h⟩
      have := k.mpr (h rfl)
      omega
    · intro h
      exact ⟨fun x => (by cases x), fun _ => k.mp (by omega)⟩
theorem mb_iff {e : En} {m S : Int} (q1 : 1 ≤ e.q) : UpC e m S ↔ m ≤ mbM e S := by
  unfold UpC mbM
  cases z : e.al with
  | true =>
    rw [if_pos rfl]
    have k : m ≤ e.p * S / e.q ↔ m * e.q ≤ e.p * S := Int.le_ediv_iff_mul_le (by omega)
    constructor
    · rintro ⟨h, _⟩
      exact k.mpr (h rfl)
    · intro h
      exact ⟨fun _ => k.mp h, fun x => (by cases x)⟩
  | false =>
    rw [if_neg (by simp)]
    have k : -e.p * S / e.q < -m ↔ -e.p * S < -m * e.q := Int.ediv_lt_iff_lt_mul (by omega)
    rw [Int.neg_mul, Int.neg_mul] at k
    rw [Int.neg_mul]
    constructor
    · rintro ⟨_, h⟩
      have := k.mpr (by have := h rfl; omega)
      omega
    · intro h
      have := k.mp (by omega)
      exact ⟨fun x => (by cases x), fun _ => (by omega)⟩
end Dl
namespace Dl
open PySem L2
def LoCd (y : Tr) (u v n : Int) : Prop := (0 < n → v * vl y n ≤ u * n) ∧ (n < 0 → u * n < v * (vl y n + 1))
def UpCd (y : Tr) (u v n : Int) : Prop := (0 < n → u * n < v * (vl y n + 1)) ∧ (n < 0 → v * vl y n ≤ u * n)
structure LoP (P : Int → Prop) (y : Tr) (L H a : Int) (e : En) : Prop where
  ok : EnOk e
  iff : ∀ u v, 1 ≤ v → ((∀ n, L ≤ n → n ≤ H → P n → LoCd y u v n) ↔ LoC e u v)
  r0 : L ≤ e.n + a
  r1 : e.n + a ≤ H
  nz : e.n + a ≠ 0
  at_ : ∀ u v, 1 ≤ v → v * vl y (e.n + a) ≤ u * (e.n + a) → u * (e.n + a) < v * (vl y (e.n + a) + 1) → LoC e u v
  qn : e.q ≤ e.n + a ∨ e.q ≤ -(e.n + a)
structure UpP (P : Int → Prop) (y : Tr) (L H a : Int) (e : En) : Prop where
  ok : EnOk e
  iff : ∀ u v, 1 ≤ v → ((∀ n, L ≤ n → n ≤ H → P n → UpCd y u v n) ↔ UpC e u v)
  r0 : L ≤ e.n + a
  r1 : e.n + a ≤ H
  nz : e.n + a ≠ 0
  at_ : ∀ u v, 1 ≤ v → v * vl y (e.n + a) ≤ u * (e.n + a) → u * (e.n + a) < v * (vl y (e.n + a) + 1) → UpC e u v
  qn : e.q ≤ e.n + a ∨ e.q ≤ -(e.n + a)
theorem LoP.all {P : Int → Prop} {y : Tr} {L H a : Int} {e : En} (h : LoP P y L H a e) (cov : ∀ n, L ≤ n → n ≤ H → n ≠ 0 → P n) : LoOk y L H a e :=
  ⟨h.ok, fun u v v1 => ⟨fun k => (h.iff u v v1).mp fun n n0 n1 _ => k n n0 n1, fun k n n0 n1 => ⟨fun z => ((h.iff u v v1).mpr k n n0 n1 (cov n n0 n1 (by omega))).1 z, fun z => ((h.iff u v v1).mpr k n n0 n1 (cov n n0 n1 (by omega))).2 z⟩⟩, h.r0, h.r1, h.nz, h.at_, h.qn⟩
theorem UpP.all {P : Int → Prop} {y : Tr} {L H a : Int} {e : En} (h : UpP P y L H a e) (cov : ∀ n, L ≤ n → n ≤ H → n ≠ 0 → P n) : UpOk y L H a e :=
  ⟨h.ok, fun u v v1 => ⟨fun k => (h.iff u v v1).mp fun n n0 n1 _ => k n n0 n1, fun k n n0 n1 => ⟨fun z => ((h.iff u v v1).mpr k n n0 n1 (cov n n0 n1 (by omega))).1 z, fun z => ((h.iff u v v1).mpr k n n0 n1 (cov n n0 n1 (by omega))).2 z⟩⟩, h.r0, h.r1, h.nz, h.at_, h.qn⟩
end Dl
namespace Dl
open PySem L2
def Bar (x : Tr) (l h a : Int) : Prop := l ≤ -a ∧ -a ≤ h ∧ vl x (-a) ≠ 0
def NE (e f : En) : Prop := e.p * f.q < f.p * e.q ∨ (e.p = f.p ∧ e.q = f.q ∧ e.al = true ∧ f.al = true)
structure PlSz (x : Tr) (l h a : Int) : Prop where
  o1 : 1 ≤ x.2.2
  st : Sm 300 x.1
  sp : Sm 700 x.2.1
  so : Sm 499 x.2.2
  sl : Sm 499 l
  sh : Sm 499 h
  sa : Sm 300 a
  lh : l < h
structure LstM (e f : En) (b : Int) (s : Nat) (m : Int) : Prop where
  m : m = laM e (b ^ s)
  le : laM e (b ^ s) ≤ mbM f (b ^ s)
  no : ∀ j, j < s → ¬ laM e (b ^ j) ≤ mbM f (b ^ j)
theorem LstM.few {y : Tr} {L H a b m W : Int} {e f : En} {s : Nat} (he : LoOk y L H a e) (hf : UpOk y L H a f) (ne : NE e f) (nd : ¬ (e.p = f.p ∧ e.q = f.q ∧ ¬ b ^ Builtin.Int.intBits e.q % e.q = 0)) (b2 : 2 ≤ b) (w0 : -W ≤ L) (w1 : H ≤ W) (w : W ≤ 4 * 10 ^ 30) (l : LstM e f b s m) (single : ∀ {S : Int}, (e.p = f.p ∧ e.q = f.q ∧ e.al = true ∧ f.al = true) → S % e.q = 0 → laM e S ≤ mbM f S) : s ≤ 210 := by
  have q1 := he.ok.q1
  have q2 := hf.ok.q1
  have bq := he.qn
  have bf := hf.qn
  have r0 := he.r0
  have r1 := he.r1
  have r2 := hf.r0
  have r3 := hf.r1
  rcases ne with lt | sg
  · have ok : IOk ⟨e.p, e.q, f.p, f.q⟩ := ⟨q1, q2, lt⟩
    have m := Int.mul_le_mul (show e.q ≤ 4 * 10 ^ 30 by omega) (show f.q ≤ 4 * 10 ^ 30 by omega) (by omega) (by decide)
    have e12 : (4 * 10 ^ 30 : Int) * (4 * 10 ^ 30) < 2 ^ 210 := by decide +kernel
    have p : (2 : Int) ^ 210 ≤ b ^ 210 := by
      have : ∀ j : Nat, (2 : Int) ^ j ≤ b ^ j := fun j => by
        induction j with
        | zero => simp
        | succ j ih =>
          rw [Int.pow_succ, Int.pow_succ]
          exact Int.mul_le_mul ih b2 (by omega) (by have := pow_one_le (show 1 ≤ b by omega) j; omega)
      exact this 210
    obtain ⟨k, hk⟩ := in_ex ok (s := b ^ 210) (show e.q * f.q < b ^ 210 by omega)
    have l1 : LoC e k (b ^ 210) := ⟨fun _ => Int.le_of_lt hk.lo, fun _ => hk.lo⟩
    have u1 : UpC f k (b ^ 210) := ⟨fun _ => Int.le_of_lt hk.hi, fun _ => hk.hi⟩
    have := (la_iff q1).mp l1
    have := (mb_iff q2).mp u1
    rcases Nat.lt_or_ge 210 s with z | z
    · exact absurd (show laM e (b ^ 210) ≤ mbM f (b ^ 210) by omega) (l.no 210 z)
    · exact z
  · have dv : b ^ Builtin.Int.intBits e.q % e.q = 0 := Classical.byContradiction fun z => nd ⟨sg.1, sg.2.1, z⟩
    have sq : Sm 110 e.q := sm_of (by have := two_pos 110; omega) (by have z : (4 * 10 ^ 30 : Int) < 2 ^ 110 := (by decide +kernel); omega)
    have hb := sq.bits
    rcases Nat.lt_or_ge (Builtin.Int.intBits e.q) s with z | z
    · exact absurd (single sg dv) (l.no _ z)
    · omega
theorem LoOk.uniq {y : Tr} {L H a : Int} {e f : En} (he : LoOk y L H a e) (hf : LoOk y L H a f) : e.p = f.p ∧ e.q = f.q ∧ e.al = f.al := lo_uniq he.ok hf.ok fun u v v1 => (he.iff u v v1).symm.trans (hf.iff u v v1)
theorem UpOk.uniq {y : Tr} {L H a : Int} {e f : En} (he : UpOk y L H a e) (hf : UpOk y L H a f) : e.p = f.p ∧ e.q = f.q ∧ e.al = f.al := up_uniq he.ok hf.ok fun u v v1 => (he.iff u v v1).symm.trans (hf.iff u v v1)
end Dl
namespace Dl
open PySem L2
end Dl
namespace Dl
open PySem L2
def PM (x : Tr) (l h a S : Int) : Prop := ¬ Bar x l h a ∧ ∃ m, LoA (shT x (-a)) (l + a) (h + a) m S ∧ UpA (shT x (-a)) (l + a) (h + a) m S
structure Ens (x : Tr) (l h a : Int) (e f : En) : Prop where
  oe : EnOk e
  of : EnOk f
  i1 : ∀ u v, 1 ≤ v → (LoA (shT x (-a)) (l + a) (h + a) u v ↔ LoC e u v)
  i2 : ∀ u v, 1 ≤ v → (UpA (shT x (-a)) (l + a) (h + a) u v ↔ UpC f u v)
  nb : ¬ Bar x l h a
theorem Ens.pm {x : Tr} {l h a S : Int} {e f : En} (s : Ens x l h a e f) (S1 : 1 ≤ S) : PM x l h a S ↔ laM e S ≤ mbM f S := by
  constructor
  · rintro ⟨_, m, h1, h2⟩
    have := (la_iff s.oe.q1).mp ((s.i1 m S S1).mp h1)
    have := (mb_iff s.of.q1).mp ((s.i2 m S S1).mp h2)
    omega
  · intro le
    exact ⟨s.nb, laM e S, (s.i1 _ S S1).mpr ((la_iff s.oe.q1).mpr (Int.le_refl _)), (s.i2 _ S S1).mpr ((mb_iff s.of.q1).mpr le)⟩
end Dl
namespace Dl
open PySem L2
def scP (d : D) : Bool := tyL d && pureD d
def tyP : D → Bool
  | .tup ds => ds.all scP
  | d => tyL d
end Dl
namespace Dl
open PySem L2
def pcAt (P : List Pc) (n i : Int) : Option Pc := if 0 ≤ i then (match P[i.toNat]? with | some p => if p.2.1 ≤ n ∧ n ≤ p.2.2 then some p else none | none => none) else none
theorem pcAt_cases (P : List Pc) (n i : Int) : (i < 0 ∧ pcAt P n i = none) ∨ ((P.length : Int) ≤ i ∧ 0 ≤ i ∧ pcAt P n i = none) ∨ ∃ (k : Nat) (p : Pc), i = k ∧ k < P.length ∧ P[k]? = some p ∧ ((n < p.2.1 ∧ pcAt P n i = none) ∨ (p.2.1 ≤ n ∧ p.2.2 < n ∧ pcAt P n i = none) ∨ (p.2.1 ≤ n ∧ n ≤ p.2.2 ∧ pcAt P n i = some p)) := by
  unfold pcAt
  by_cases h : 0 ≤ i
  · rw [if_pos h]
    by_cases l : i.toNat < P.length
    · refine .inr (.inr ⟨i.toNat, P[i.toNat], (Int.toNat_of_nonneg h).symm, l, List.getElem?_eq_getElem l, ?_⟩)
      rw [List.getElem?_eq_getElem l]
      simp only
      by_cases a : P[i.toNat].2.1 ≤ n
      · by_cases b : n ≤ P[i.toNat].2.2
        · exact .inr (.inr ⟨a, b, if_pos ⟨a, b⟩⟩)
        · exact .inr (.inl ⟨a, by omega, if_neg fun z => b z.2⟩)
      · exact .inl ⟨by omega, if_neg fun z => a z.1⟩
    · refine .inr (.inl ⟨by omega, h, ?_⟩)
      rw [List.getElem?_eq_none (by omega)]
  · exact .inl ⟨by omega, if_neg h⟩
def barB (P : List Pc) : D → Option (Int × Int)
  | .tup [.int a, .int i, .int b, .int j] => (match pcAt P a i, pcAt P b j with
    | some p, some q => some (b - a, vl q.1 b - vl p.1 a - 1)
    | _, _ => none)
  | _ => none
theorem bar_ints {P : List Pc} {a i b j : Int} : barB P (.tup [.int a, .int i, .int b, .int j]) = (match pcAt P a i, pcAt P b j with
    | some p, some q => some (b - a, vl q.1 b - vl p.1 a - 1)
    | _, _ => none) := rfl
theorem bar_n1 {P : List Pc} {a i b j : Int} (h : pcAt P a i = none) : barB P (.tup [.int a, .int i, .int b, .int j]) = none := by
  rw [bar_ints, h]
theorem bar_n2 {P : List Pc} {a i b j : Int} (h : pcAt P b j = none) : barB P (.tup [.int a, .int i, .int b, .int j]) = none := by
  rw [bar_ints, h]
  cases pcAt P a i <;> rfl
theorem bar_s {P : List Pc} {a i b j : Int} {p q : Pc} (h1 : pcAt P a i = some p) (h2 : pcAt P b j = some q) : barB P (.tup [.int a, .int i, .int b, .int j]) = some (b - a, vl q.1 b - vl p.1 a - 1) := by
  rw [bar_ints, h1, h2]
theorem bar_len {P : List Pc} {ds : List D} (n : ds.length ≠ 4) : barB P (.tup ds) = none := by
  unfold barB
  split
  · rename_i h
    cases h
    exact absurd rfl n
  · rfl
theorem bar_not {P : List Pc} {p q r t : D} (n : (isIntD p && (isIntD q && (isIntD r && isIntD t))) = false) : barB P (.tup [p, q, r, t]) = none := by
  unfold barB
  split
  · rename_i h
    cases h
    cases n
  · rfl
theorem pcAt_some {P : List Pc} {n i : Int} {p : Pc} (h : pcAt P n i = some p) : ∃ k : Nat, i = k ∧ P[k]? = some p ∧ p.2.1 ≤ n ∧ n ≤ p.2.2 := by
  rcases pcAt_cases P n i with ⟨_, e⟩ | ⟨_, _, e⟩ | ⟨k, q, e0, _, e1, ⟨_, e⟩ | ⟨_, _, e⟩ | ⟨h1, h2, e⟩⟩
  · rw [e] at h; cases h
  · rw [e] at h; cases h
  · rw [e] at h; cases h
  · rw [e] at h; cases h
  · rw [e] at h; cases h; exact ⟨k, e0, e1, h1, h2⟩
theorem bar_some {P : List Pc} {v : D} {d e : Int} (h : barB P v = some (d, e)) : ∃ (b : Br) (p q : Pc), v = brD b ∧ BrOk P b p q ∧ d = brd b ∧ e = bre p q b := by
  unfold barB at h
  split at h
  · rename_i a i b j
    split at h
    · rename_i p q h1 h2
      cases h
      obtain ⟨k, rfl, z1, z2, z3⟩ := pcAt_some h1
      obtain ⟨m, rfl, y1, y2, y3⟩ := pcAt_some h2
      exact ⟨(a, k, b, m), p, q, rfl, ⟨z1, z2, z3, y1, y2, y3⟩, rfl, rfl⟩
    · cases h
  · cases h
def decB (d1 e1 d2 e2 : Int) : Bool := decide ((d1 = 0 ∧ 0 ≤ e1) ∨ (d2 = 0 ∧ 0 ≤ e2) ∨ (0 < d1 ∧ d2 < 0 ∧ e1 * d2 ≤ e2 * d1) ∨ (d1 < 0 ∧ 0 < d2 ∧ e2 * d1 ≤ e1 * d2))
def clnB (P : List Pc) : D → Bool
  | .tup [p, q] => (match barB P p, barB P q with
    | some x, some y => decB x.1 x.2 y.1 y.2
    | _, _ => false)
  | _ => false
theorem cln_len {P : List Pc} {ds : List D} (n : ds.length ≠ 2) : clnB P (.tup ds) = false := by
  match ds, n with
  | [], _ => rfl
  | [_], _ => rfl
  | _ :: _ :: _ :: _, _ => rfl
theorem cln_n1 {P : List Pc} {p q : D} (h : barB P p = none) : clnB P (.tup [p, q]) = false := by
  show (match barB P p, barB P q with | some x, some y => decB x.1 x.2 y.1 y.2 | _, _ => false) = false
  rw [h]
theorem cln_n2 {P : List Pc} {p q : D} (h : barB P q = none) : clnB P (.tup [p, q]) = false := by
  show (match barB P p, barB P q with | some x, some y => decB x.1 x.2 y.1 y.2 | _, _ => false) = false
  rw [h]
  cases barB P p <;> rfl
theorem cln_s {P : List Pc} {p q : D} {d1 e1 d2 e2 : Int} (h1 : barB P p = some (d1, e1)) (h2 : barB P q = some (d2, e2)) : clnB P (.tup [p, q]) = decB d1 e1 d2 e2 := by
  show (match barB P p, barB P q with | some x, some y => decB x.1 x.2 y.1 y.2 | _, _ => false) = decB d1 e1 d2 e2
  rw [h1, h2]
def tyQ : D → Bool
  | .tup ds => ds.all fun d => tyP d && pureD d
  | d => tyL d
theorem ints4 {p q r t : D} (h : (isIntD p && (isIntD q && (isIntD r && isIntD t))) = true) : ∃ i j k l, p = .int i ∧ q = .int j ∧ r = .int k ∧ t = .int l := by
  cases p <;> first | cases h | (cases q <;> first | cases h | (cases r <;> first | cases h | (cases t <;> first | exact ⟨_, _, _, _, rfl, rfl, rfl, rfl⟩ | cases h)))
end Dl
local macro_rules | `(tactic| walk_at "v") => `(tactic| try simp (config := {maxSteps := 2000000}) only [Dl.e_vIsiB, Dl.f_eqNB1, Dl.f_eqNB2, Dl.f_repO, Dl.f_ixTx, Dl.f_mulS, Dl.f_sortS, Dl.lkE, Dl.f_repT, Dl.f_inW2, Dl.f_inW3, Dl.f_eqNt, Dl.f_isF, Dl.f_eqNO, Dl.okF_dct, Dl.okF_ln, Dl.fldD_dct, Dl.dctI_dct, Dl.dctI_same, Dl.f_lenDc, Dl.f_inDc, Dl.f_dictc, Dl.f_dictOc, Dl.k_str, Dl.k_int, Dl.pkm1, Dl.pkm2, Dl.pkm3, Dl.pkm4, Dl.pkm5, Dl.pkm6, Dl.f_cls, Dl.f_strI, Dl.e_vFmt, Dl.e_vFs, Dl.e_vJs0, Dl.e_vJs1, Dl.strsOf, Dl.f_eqNl, Dl.e_oReprX, Dl.e_vDct0, Dl.e_vDct, Dl.e_vPs, Dl.f_catT, Dl.putD_nil, Dl.putD_z, Dl.putD_s, Dl.okF_own, Dl.okF_int, Dl.okF_bl, Dl.okF_non, Dl.okF_tup, Dl.okF_lst, Dl.fldD_own, Dl.fldD_int, Dl.fldD_bl, Dl.fldD_tup, Dl.fldD_lst, Dl.word_beq, Dl.e_vIsX, Dl.e_vFld, Dl.e_vTry, Dl.xdD, if_true, if_false, K33.in_InvalidLine, K33.nf_InvalidLine, K33.fl_InvalidLine, K33.in_InvalidRange, K33.nf_InvalidRange, K33.fl_InvalidRange, K33.in_InvalidNumber, K33.nf_InvalidNumber, K33.fl_InvalidNumber, K33.in_InvalidList, K33.nf_InvalidList, K33.fl_InvalidList, K33.in_InvalidRecipe, K33.nf_InvalidRecipe, K33.fl_InvalidRecipe, Dl.f_eqE, Dl.f_isB, Dl.e_vSlT, Dl.pk32, Dl.pk42, Dl.pk52, Dl.unrollL_cons, Dl.unrollL_nil, Dl.e_vL, Dl.e_tL, Dl.e_aL, Dl.e_vCallX, Dl.e_vCallKX, Dl.e_vDropX, Dl.e_vAsgX, Dl.e_vIfX, Dl.e_vBX, Dl.e_vIsNX, Dl.e_vRaise, Dl.e_xxx, Dl.e_xnx, Dl.e_xrt, Dl.f_nEx, Dl.f_nE0, Dl.f_tyD, Dl.f_nD, Dl.f_wD, Dl.f_wLn, Dl.e_vIsiL, Dl.e_vAugL, Dl.lstI, Dl.f_ltT2, Dl.pk01, Dl.pk02, Dl.pk03, Dl.pk04, Dl.pk05, Dl.pk06, Dl.pk07, Dl.pk08, Dl.pk11, Dl.pk21, Dl.pk31, Dl.pk41, Dl.pk51, Dl.cp10, Dl.f_rep, Dl.f_reprB, Dl.f_reprN, Dl.f_reprI, Dl.e_vObj, Dl.f_addOLL, Dl.e_dLst, Dl.e_vRev, Dl.f_lnL, Dl.e_vNegL, Dl.e_oBinL, Dl.e_vParts, Dl.e_vLine, Dl.e_vIsL, Dl.f_subO, Dl.f_subN, Dl.f_tyLn, Dl.l_non, Dl.l_bl, Dl.l_int, Dl.l_str, Dl.l_tup, Dl.l_lst, Dl.l_scr, Dl.l_own, Dl.l_dct, Dl.t_ln, Dl.t_non, Dl.t_bl, Dl.t_int, Dl.t_str, Dl.t_tup, Dl.t_lst, Dl.t_own, Dl.t_dct, Dl.e_vSeq, Dl.e_wEnum, Dl.e_oMax1, Dl.e_oMin1, Dl.f_intsL, Dl.f_eqW, Dl.f_in2, Dl.f_in4, String.reduceEq, decide_true, decide_false, Bool.true_or, Bool.or_true, Bool.false_or, Bool.or_false, Dl.intsD_map, Dl.e_vPop, Dl.e_vIf, Dl.e_vB, Dl.e_vOp, Dl.e_vVar, Dl.e_vC, Dl.e_vNever, Dl.e_vNext, Dl.e_vRet, Dl.e_vDrop, Dl.e_vBreak, Dl.e_vAnd, Dl.e_vOr, Dl.e_vNot, Dl.e_vAndV, Dl.e_vNotV, Dl.e_vIte, Dl.e_vIsN, Dl.e_vNeg, Dl.e_vNil, Dl.e_vCons, Dl.e_vTup, Dl.e_vLst, Dl.e_vLstO, Dl.e_vIxC, Dl.e_vSl, Dl.e_vNoPart, Dl.e_vPart, Dl.e_vCB, Dl.e_vBits, Dl.e_vCall, Dl.e_vCallK, Dl.e_vAsg, Dl.e_vPar, Dl.e_vAug, Dl.e_vAppend, Dl.e_vYes, Dl.e_dName, Dl.e_dNil, Dl.e_dCons, Dl.e_dTup, Dl.e_dSub, Dl.f_oI, Dl.f_oI0, Dl.f_addI, Dl.f_addS, Dl.f_addLL, Dl.f_addOL, Dl.f_addLO, Dl.f_eqI, Dl.f_eqB, Dl.f_eqNI, Dl.f_eqIN, Dl.f_eqNN, Dl.f_ixL, Dl.f_ixT, Dl.f_ixS, Dl.f_ixO, Dl.f_C1, Dl.f_C2, Dl.f_intI, Dl.f_intB, Dl.f_lenS, Dl.f_lenL, Dl.f_lenT, Dl.f_lenC, Dl.f_lenO, Dl.f_listL, Dl.f_listT, Dl.f_listOL, Dl.f_listOT, Dl.f_sumL, Dl.e_wList, Dl.e_wTup, Dl.e_wRng1, Dl.liD, Dl.gt, Dl.gset, Dl.gwipe, Dl.st0, Dl.e_frt, Dl.e_fnx, Dl.e_fbk, Dl.e_fct, Dl.nthD, Dl.f_sqL, Dl.f_sqT, Dl.f_sqC, Dl.f_sqO, Dl.f_itL, Dl.f_itT, Dl.f_itC, Dl.f_itO, Dl.f_tmN, Dl.f_tmB, Dl.f_tmI, Dl.f_tmS, Dl.f_tmT, Dl.f_tmL, Dl.f_tmD, Dl.f_tmO, Dl.lstAt_set, Dl.f_tyN, Dl.f_tyB, Dl.f_tyI, Dl.f_tyS, Dl.f_tyT, Dl.f_tyL, Dl.f_tyO, Dl.Ty.sub, Dl.f_nN, Dl.f_nB, Dl.f_nI, Dl.f_nS, Dl.f_nT, Dl.f_nL, Dl.f_nO, Dl.f_nLn, Dl.f_wN, Dl.f_wB, Dl.f_wI, Dl.f_wS, Dl.f_wT, Dl.f_wL, Dl.f_wO, Dl.pureD, Dl.pureL, Dl.constL, Dl.constV, List.set_cons_succ, List.set_cons_zero, List.map_nil, List.map_cons, List.append_nil, List.nil_append, List.cons_append, List.length_cons, List.length_nil, Nat.zero_add, Nat.reduceAdd, id_eq, Bool.not_true, Bool.not_false, Bool.and_self, Bool.true_and, Bool.and_true, Bool.false_and, Bool.and_false, Bool.false_eq_true, Bool.true_eq_false, reduceCtorEq, false_implies, forall_const, Int.cast_ofNat_Int, Int.reduceEq, Int.reduceLT, Int.reduceLE, Int.reduceToNat, ne_eq, not_true_eq_false, not_false_eq_true, eq_self, Int.one_mul, Int.zero_add, Int.add_zero, Dl.mset_same, Dl.mset_set, Dl.cp1, Dl.cp2, Dl.cp3, Dl.cp3', Dl.cp4, Dl.cp5, Dl.cp6, Dl.cp7, Dl.cp8, true_and, and_true, implies_true, true_implies, decide_eq_true_eq, decide_eq_false_iff_not, Bool.not_eq_true', Bool.not_eq_false'])
local macro_rules | `(tactic| walk_at "w") => `(tactic| try simp (config := {maxSteps := 2000000}) only [Dl.e_vIsiB, Dl.f_eqNB1, Dl.f_eqNB2, Dl.f_repO, Dl.f_ixTx, Dl.f_mulS, Dl.f_sortS, Dl.lkE, Dl.f_repT, Dl.f_inW2, Dl.f_inW3, Dl.f_eqNt, Dl.f_isF, Dl.f_eqNO, Dl.okF_dct, Dl.okF_ln, Dl.fldD_dct, Dl.dctI_dct, Dl.dctI_same, Dl.f_lenDc, Dl.f_inDc, Dl.f_dictc, Dl.f_dictOc, Dl.k_str, Dl.k_int, Dl.pkm1, Dl.pkm2, Dl.pkm3, Dl.pkm4, Dl.pkm5, Dl.pkm6, Dl.f_cls, Dl.f_strI, Dl.e_vFmt, Dl.e_vFs, Dl.e_vJs0, Dl.e_vJs1, Dl.strsOf, Dl.f_eqNl, Dl.e_oReprX, Dl.e_vDct0, Dl.e_vDct, Dl.e_vPs, Dl.f_catT, Dl.putD_nil, Dl.putD_z, Dl.putD_s, Dl.okF_own, Dl.okF_int, Dl.okF_bl, Dl.okF_non, Dl.okF_tup, Dl.okF_lst, Dl.fldD_own, Dl.fldD_int, Dl.fldD_bl, Dl.fldD_tup, Dl.fldD_lst, Dl.word_beq, Dl.e_vIsX, Dl.e_vFld, Dl.e_vTry, Dl.xdD, if_true, if_false, K33.in_InvalidLine, K33.nf_InvalidLine, K33.fl_InvalidLine, K33.in_InvalidRange, K33.nf_InvalidRange, K33.fl_InvalidRange, K33.in_InvalidNumber, K33.nf_InvalidNumber, K33.fl_InvalidNumber, K33.in_InvalidList, K33.nf_InvalidList, K33.fl_InvalidList, K33.in_InvalidRecipe, K33.nf_InvalidRecipe, K33.fl_InvalidRecipe, Dl.f_eqE, Dl.f_isB, Dl.e_vSlT, Dl.pk32, Dl.pk42, Dl.pk52, Dl.unrollL_cons, Dl.unrollL_nil, Dl.e_vL, Dl.e_tL, Dl.e_aL, Dl.e_vCallX, Dl.e_vCallKX, Dl.e_vDropX, Dl.e_vAsgX, Dl.e_vIfX, Dl.e_vBX, Dl.e_vIsNX, Dl.e_vRaise, Dl.e_xxx, Dl.e_xnx, Dl.e_xrt, Dl.f_nEx, Dl.f_nE0, Dl.f_tyD, Dl.f_nD, Dl.f_wD, Dl.f_wLn, Dl.e_vIsiL, Dl.e_vAugL, Dl.lstI, Dl.f_ltT2, Dl.pk01, Dl.pk02, Dl.pk03, Dl.pk04, Dl.pk05, Dl.pk06, Dl.pk07, Dl.pk08, Dl.pk11, Dl.pk21, Dl.pk31, Dl.pk41, Dl.pk51, Dl.cp10, Dl.f_rep, Dl.f_reprB, Dl.f_reprN, Dl.f_reprI, Dl.e_vObj, Dl.f_addOLL, Dl.e_dLst, Dl.e_vRev, Dl.f_lnL, Dl.e_vNegL, Dl.e_oBinL, Dl.e_vParts, Dl.e_vLine, Dl.e_vIsL, Dl.f_subO, Dl.f_subN, Dl.f_tyLn, Dl.l_non, Dl.l_bl, Dl.l_int, Dl.l_str, Dl.l_tup, Dl.l_lst, Dl.l_scr, Dl.l_own, Dl.l_dct, Dl.t_ln, Dl.t_non, Dl.t_bl, Dl.t_int, Dl.t_str, Dl.t_tup, Dl.t_lst, Dl.t_own, Dl.t_dct, Nat.zero_le, Dl.sz1, Dl.sz2, Dl.sz3, Dl.sz4, Dl.sz5, Dl.sz6, Dl.sz7, Dl.sz8, Dl.sz9, Dl.sz10, Dl.sz11, Dl.sz12, Dl.sz13, Dl.sz14, Dl.sz15, Dl.sz16, Dl.sl0, Dl.sl1, Dl.sl2, Dl.sl3, Dl.sl4, Dl.sl5, Dl.sl6, Dl.sl7, Dl.sl8, Dl.sl9, Dl.sl10, Dl.sl11, Dl.sl12, Dl.sl13, Dl.sl14, Dl.sl15, Dl.sl16, Dl.e_vSeq, Dl.e_wEnum, Dl.e_oMax1, Dl.e_oMin1, Dl.f_intsL, Dl.f_eqW, Dl.f_in2, Dl.f_in4, String.reduceEq, decide_true, decide_false, Bool.true_or, Bool.or_true, Bool.false_or, Bool.or_false, Dl.intsD_map, Dl.e_vPop, Dl.e_vIf, Dl.e_vB, Dl.e_vOp, Dl.e_vVar, Dl.e_vC, Dl.e_vNever, Dl.e_vNext, Dl.e_vRet, Dl.e_vDrop, Dl.e_vBreak, Dl.e_vAnd, Dl.e_vOr, Dl.e_vNot, Dl.e_vAndV, Dl.e_vNotV, Dl.e_vIte, Dl.e_vIsN, Dl.e_vNeg, Dl.e_vNil, Dl.e_vCons, Dl.e_vTup, Dl.e_vLst, Dl.e_vLstO, Dl.e_vIxC, Dl.e_vSl, Dl.e_vNoPart, Dl.e_vPart, Dl.e_vCB, Dl.e_vBits, Dl.e_vCall, Dl.e_vCallK, Dl.e_vAsg, Dl.e_vPar, Dl.e_vAug, Dl.e_vAppend, Dl.e_vYes, Dl.e_dName, Dl.e_dNil, Dl.e_dCons, Dl.e_dTup, Dl.e_dSub, Dl.f_oI, Dl.f_oI0, Dl.f_addI, Dl.f_addS, Dl.f_addLL, Dl.f_addOL, Dl.f_addLO, Dl.f_eqI, Dl.f_eqB, Dl.f_eqNI, Dl.f_eqIN, Dl.f_eqNN, Dl.f_ixL, Dl.f_ixT, Dl.f_ixS, Dl.f_ixO, Dl.f_C1, Dl.f_C2, Dl.f_intI, Dl.f_intB, Dl.f_lenS, Dl.f_lenL, Dl.f_lenT, Dl.f_lenC, Dl.f_lenO, Dl.f_listL, Dl.f_listT, Dl.f_listOL, Dl.f_listOT, Dl.f_sumL, Dl.e_wList, Dl.e_wTup, Dl.e_wRng1, Dl.liD, Dl.gt, Dl.gset, Dl.gwipe, Dl.st0, Dl.e_frt, Dl.e_fnx, Dl.e_fbk, Dl.e_fct, Dl.nthD, Dl.f_sqL, Dl.f_sqT, Dl.f_sqC, Dl.f_sqO, Dl.f_itL, Dl.f_itT, Dl.f_itC, Dl.f_itO, Dl.f_tmN, Dl.f_tmB, Dl.f_tmI, Dl.f_tmS, Dl.f_tmT, Dl.f_tmL, Dl.f_tmD, Dl.f_tmO, Dl.lstAt_set, Dl.f_tyN, Dl.f_tyB, Dl.f_tyI, Dl.f_tyS, Dl.f_tyT, Dl.f_tyL, Dl.f_tyO, Dl.Ty.sub, Dl.f_nN, Dl.f_nB, Dl.f_nI, Dl.f_nS, Dl.f_nT, Dl.f_nL, Dl.f_nO, Dl.f_nLn, Dl.f_wN, Dl.f_wB, Dl.f_wI, Dl.f_wS, Dl.f_wT, Dl.f_wL, Dl.f_wO, Dl.pureD, Dl.pureL, Dl.constL, Dl.constV, List.set_cons_succ, List.set_cons_zero, List.map_nil, List.map_cons, List.append_nil, List.nil_append, List.cons_append, List.length_cons, List.length_nil, Nat.zero_add, Nat.reduceAdd, id_eq, Bool.not_true, Bool.not_false, Bool.and_self, Bool.true_and, Bool.and_true, Bool.false_and, Bool.and_false, Bool.false_eq_true, Bool.true_eq_false, reduceCtorEq, false_implies, forall_const, Int.cast_ofNat_Int, Int.reduceEq, Int.reduceLT, Int.reduceLE, Int.reduceToNat, ne_eq, not_true_eq_false, not_false_eq_true, eq_self, Int.one_mul, Int.zero_add, Int.add_zero, Dl.mset_same, Dl.mset_set, Dl.cp1, Dl.cp2, Dl.cp3, Dl.cp3', Dl.cp4, Dl.cp5, Dl.cp6, Dl.cp7, Dl.cp8, true_and, and_true, implies_true, true_implies, decide_eq_true_eq, decide_eq_false_iff_not, Bool.not_eq_true', Bool.not_eq_false'])
namespace K33
open PySem L2 Dl
structure Txt (K : PySem.W.Frag) (mg : Str → Option Value) : Prop where
  b_abs : mg "abs" = none
  b_bool : mg "bool" = none
  b_enumerate : mg "enumerate" = none
  b_int : mg "int" = none
  b_isinstance : mg "isinstance" = none
  b_len : mg "len" = none
  b_list : mg "list" = none
  b_max : mg "max" = none
  b_min : mg "min" = none
  b_range : mg "range" = none
  b_repr : mg "repr" = none
  b_super : mg "super" = none
  b_tuple : mg "tuple" = none
  g_FourTestsError : mg "FourTestsError" = some (.ref (He.ga K "FourTestsError"))
abbrev N_is_whole : List Str := ["value"]
theorem sc_is_whole : FnScope N_is_whole ["value"] (defScope s_is_whole) := ⟨rfl, rfl, rfl, by decide +kernel, rfl, by decide +kernel, by decide +kernel⟩
def S_is_whole : DSp := fun ds M R _ => ∃ d, ds = [d] ∧ tyL d = true ∧ R (.bl (isIntD d)) M
theorem ok_is_whole {P : Program} {w : World} {K : PySem.W.Frag} {mg : Str → Option Value} {base : Heap} {C f : Addr} {fd : FuncData} (T : Txt K mg) (F : FunD K "is_whole" "is_whole" (defArgs s_is_whole) (defBody s_is_whole) (defScope s_is_whole) [] [] f fd) (h_isL : IsiF K mg C) : FnOk P w K mg base CX0 1 f fd ["value"] (spD ⟨K, C⟩ 1 S_is_whole) := by
  have nd := sc_is_whole.nd
  refine fn_ok 1 1 F sc_is_whole (fun cdv A outer s H E hr =>
      (qss_one (qs_ret (q_and (q_isiL .int h_isL (qv 0) rfl T.b_isinstance bb_isinstance rfl T.b_int bb_int) (q_one (q_not (q_isiL .bl h_isL (qv 0) rfl T.b_isinstance bb_isinstance rfl T.b_bool bb_bool))))))) ?_
  rintro ds M R - ⟨d, rfl, ht, hR⟩
  cases d with
  | scr _ => cases ht
  | own _ => cases ht
  | exn _ _ => cases ht
  | exn0 _ => cases ht
  | cls => cases ht
  | _ => walk_at "w"; exact fin_pure hR
abbrev N_is_piece : List Str := ["value"]
theorem sc_is_piece : FnScope N_is_piece ["value"] (defScope s_is_piece) := ⟨rfl, rfl, rfl, by decide +kernel, rfl, by decide +kernel, by decide +kernel⟩
def intLe : D → D → Bool
  | .int l, .int h => decide (l ≤ h)
  | _, _ => false
def pieceB : D → Bool
  | .tup l => (match l with
    | [a, b, c] => isLn a && (isIntD b && (isIntD c && intLe b c))
    | _ => false)
  | _ => false
structure ElOk (d : D) : Prop where
  ty : tyL d = true
  pu : pureD d = true
  el : ∀ l, d = .tup l → ∀ e ∈ l, tyL e = true
theorem pieceB_len {l : List D} (h : l.length ≠ 3) : pieceB (.tup l) = false := by
  match l, h with
  | [], _ => rfl
  | [_], _ => rfl
  | [_, _], _ => rfl
  | [_, _, _], h => exact absurd rfl h
  | _ :: _ :: _ :: _ :: _, _ => unfold pieceB; rfl
theorem elOk_pc (p : Pc) : ElOk (pcD p) := ⟨rfl, rfl, fun l e x hx => by
  cases e
  simp only [List.mem_cons, List.not_mem_nil, or_false] at hx
  rcases hx with rfl | rfl | rfl <;> rfl⟩
theorem pieceB_pc {p : Pc} (h : p.2.1 ≤ p.2.2) : pieceB (pcD p) = true := by
  show (true && (true && (true && decide (p.2.1 ≤ p.2.2)))) = true
  rw [decide_eq_true h]; rfl
def S_is_piece : DSp := fun ds M R _ => ∃ d, ds = [d] ∧ ElOk d ∧ R (.bl (pieceB d)) M
theorem ok_is_piece {P : Program} {w : World} {K : PySem.W.Frag} {mg : Str → Option Value} {base : Heap} {C f : Addr} {fd : FuncData} (T : Txt K mg) (F : FunD K "is_piece" "is_piece" (defArgs s_is_piece) (defBody s_is_piece) (defScope s_is_piece) [] [] f fd) (h_isL : IsiF K mg C) (h_is_whole : CallOk P w K mg base C 1 "is_whole" 1 S_is_whole []) : FnOk P w K mg base CX0 2 f fd ["value"] (spD ⟨K, C⟩ 1 S_is_piece) := by
  have nd := sc_is_piece.nd
  refine fn_ok 1 1 F sc_is_piece (fun cdv A outer s H E hr =>
      (qss_cons (qs_if (QW.qt (qw_or (qt_not (qt_val (q_isiL .tup h_isL (qv 0) rfl T.b_isinstance bb_isinstance rfl T.b_tuple bb_tuple))) (qw_or (qt_cmp (c_ne hr) (q_cb b_len rfl T.b_len bb_len (qa_cons (qv 0) qa_nil)) qi) (qw_or1 (qt_not (qt_val (q_isL h_isL (q_ixC 0 (qv 0)) rfl T.b_isinstance bb_isinstance)))))))
        (qss_one (qs_ret qb))
        qss_nil)
      (qss_one (qs_ret (q_and (qc h_is_whole hr (by decide) (qa_cons (q_ixC 1 (qv 0)) qa_nil)) (q_and (qc h_is_whole hr (by decide) (qa_cons (q_ixC 2 (qv 0)) qa_nil)) (q_one (q_cmp c_le (q_ixC 1 (qv 0)) (q_ixC 2 (qv 0)))))))))) ?_
  rintro ds M R - ⟨d, rfl, ok, hR⟩
  have ty := ok.ty
  cases d with
  | scr _ => cases ty
  | exn _ _ => cases ty
  | exn0 _ => cases ty
  | cls => cases ty
  | own _ => cases ty
  | tup l =>
    have el := ok.el l rfl
    by_cases h3 : l.length = 3
    · match l, h3 with
      | [a, b, c], _ =>
      have ta := el a (by simp)
      have tb := el b (by simp)
      have tc := el c (by simp)
      walk_at "w"
      have pb : pieceB (.tup [a, b, c]) = (isLn a && (isIntD b && (isIntD c && intLe b c))) := rfl
      rw [pb] at hR
      refine ⟨ta, fun ha => ?_, fun ha => ⟨b, rfl, tb, ?_⟩⟩
      · rw [ha] at hR; exact fin_pure hR
      rw [ha] at hR
      refine ⟨fun hb => ⟨c, rfl, tc, ?_⟩, fun hb => ?_⟩
      · rw [hb] at hR
        refine ⟨fun hc => ?_, fun hc => ?_⟩
        · rw [hc] at hR
          cases b with
          | int i =>
            cases c with
            | int j => walk_at "w"; exact fin_pure hR
            | _ => cases hc
          | _ => cases hb
        · rw [hc] at hR; exact fin_pure hR
      · rw [hb] at hR; exact fin_pure hR
    · rw [pieceB_len h3] at hR
      walk_at "w"
      exact ⟨fun _ => fin_pure hR, fun z => absurd z (by omega)⟩
  | _ => walk_at "w"; exact fin_pure hR
abbrev N_check_pieces : List Str := ["pieces", "piece"]
theorem sc_check_pieces : FnScope N_check_pieces ["pieces"] (defScope s_check_pieces) := ⟨rfl, rfl, rfl, by decide +kernel, rfl, by decide +kernel, by decide +kernel⟩
def S_check_pieces : DSp := fun ds M R _ => ∃ P : List Pc, ds = [.lst (P.map pcD)] ∧ P ≠ [] ∧ P.length ≤ 12 ∧ (∀ p ∈ P, p.2.1 ≤ p.2.2) ∧ R .non M
theorem ok_check_pieces {P : Program} {w : World} {K : PySem.W.Frag} {mg : Str → Option Value} {base : Heap} {C f : Addr} {fd : FuncData} (T : Txt K mg) (F : FunD K "check_pieces" "check_pieces" (defArgs s_check_pieces) (defBody s_check_pieces) (defScope s_check_pieces) [] [] f fd) (h_isL : IsiF K mg C) (h_is_piece : CallOk P w K mg base C 2 "is_piece" 1 S_is_piece []) : FnOk P w K mg base CX0 3 f fd ["pieces"] (spD ⟨K, C⟩ 1 S_check_pieces) := by
  have nd := sc_check_pieces.nd
  refine fn_ok 2 1 F sc_check_pieces (fun cdv A outer s H E hr =>
      (qss_cons (qs_if (QW.qt (qw_or (qt_not (qt_val (q_isiB .lst h_isL (qv 0) rfl T.b_isinstance bb_isinstance rfl T.b_list bb_list))) (qw_or (qt_cmp (c_eqNB hr) (qv 0) (q_lst qa_nil)) (qw_or1 (qt_cmp c_gt (q_cb b_len rfl T.b_len bb_len (qa_cons (qv 0) qa_nil)) qi)))))
        (qss_one qs_never)
        qss_nil)
      (qss_one (qs_if (qt_cmp (c_neNl hr) (q_lc (own := [("piece", 1)]) nd (qi_list (qv 0)) (blkOk_by (own := [("piece", 1)]) (N := N_check_pieces) (sc := defScope s_check_pieces) (by decide +kernel)) (fun _ _ _ _ _ => (qgw_name (i := 1) nd)) (fun _ _ _ _ _ => (qts_one (qt_not (qt_val (qc h_is_piece hr (by decide) (qa_cons (qv 1) qa_nil)))))) (fun _ _ _ _ _ => (qv 1))) (q_lst qa_nil))
        (qss_one qs_never)
        qss_nil)))) ?_
  rintro ds M R - ⟨P, rfl, ne, len, ok, hR⟩
  have hl : (P.map pcD).length < sizeLine := Nat.lt_of_le_of_lt (by rw [List.length_map]; exact len) (show 12 < sizeLine by decide)
  have hne : P.map pcD ≠ [] := fun z => ne (List.map_eq_nil_iff.mp z)
  have hE : (P.map pcD).isEmpty = false := by
    cases P with
    | nil => exact absurd rfl ne
    | cons _ _ => rfl
  walk_at "w"
  rw [hE]
  refine ⟨fun z => (by cases z), fun _ => ?_⟩
  refine ⟨fun h => absurd h (by rw [List.length_map]; omega), fun _ => ?_⟩
  refine mf_list (fun _ => false) (fun d => d) (P.map pcD) (fun F z => by walk_at "w"; exact z) hl (fun _ _ z => by cases z) ?_ ?_
  · intro j d pp acc P1 Q hd hpp hP hQ
    obtain ⟨p, hp, rfl⟩ := List.mem_map.mp (List.mem_of_getElem? hd)
    walk_at "w"
    refine ⟨_, rfl, elOk_pc p, ?_⟩
    rw [pieceB_pc (ok p hp)]
    walk_at "w"
    exact hQ rfl
  have e : (((P.map pcD).filter fun _ => false).map fun d => d) = [] := by simp
  rw [e]
  walk_at "w"
  exact ⟨fun z => (by cases z), fun _ => fin_pure hR⟩
abbrev N_check_line : List Str := ["value"]
theorem sc_check_line : FnScope N_check_line ["value"] (defScope s_check_line) := ⟨rfl, rfl, rfl, by decide +kernel, rfl, by decide +kernel, by decide +kernel⟩
def S_check_line : DSp := fun ds M R _ => ∃ x : Tr, ds = [trL x] ∧ R .non M
theorem ok_check_line {P : Program} {w : World} {K : PySem.W.Frag} {mg : Str → Option Value} {base : Heap} {C f : Addr} {fd : FuncData} (T : Txt K mg) (F : FunD K "check_line" "check_line" (defArgs s_check_line) (defBody s_check_line) (defScope s_check_line) [] [] f fd) (h_isL : IsiF K mg C) : FnOk P w K mg base CX0 1 f fd ["value"] (spD ⟨K, C⟩ 1 S_check_line) := by
  have nd := sc_check_line.nd
  refine fn_ok 1 1 F sc_check_line (fun cdv A outer s H E hr =>
      (qss_one (qs_if (qt_not (qt_val (q_isL h_isL (qv 0) rfl T.b_isinstance bb_isinstance)))
        (qss_one qs_never)
        qss_nil))) ?_
  rintro ds M R - ⟨x, rfl, hR⟩
  simp only [trL]
  walk_at "w"
  exact fin_pure hR
abbrev N_check_range : List Str := ["low", "high"]
theorem sc_check_range : FnScope N_check_range ["low", "high"] (defScope s_check_range) := ⟨rfl, rfl, rfl, by decide +kernel, rfl, by decide +kernel, by decide +kernel⟩
def S_check_range : DSp := fun ds M R _ => ∃ l h, ds = [.int l, .int h] ∧ l < h ∧ R .non M
theorem ok_check_range {P : Program} {w : World} {K : PySem.W.Frag} {mg : Str → Option Value} {base : Heap} {C f : Addr} {fd : FuncData} (T : Txt K mg) (F : FunD K "check_range" "check_range" (defArgs s_check_range) (defBody s_check_range) (defScope s_check_range) [] [] f fd) (h_is_whole : CallOk P w K mg base C 1 "is_whole" 1 S_is_whole []) : FnOk P w K mg base CX0 2 f fd ["low", "high"] (spD ⟨K, C⟩ 2 S_check_range) := by
  have nd := sc_check_range.nd
  refine fn_ok 2 2 F sc_check_range (fun cdv A outer s H E hr =>
      (qss_one (qs_if (QW.qt (qw_or (qt_not (qt_val (qc h_is_whole hr (by decide) (qa_cons (qv 0) qa_nil)))) (qw_or (qt_not (qt_val (qc h_is_whole hr (by decide) (qa_cons (qv 1) qa_nil)))) (qw_or1 (qt_cmp c_ge (qv 0) (qv 1))))))
        (qss_one qs_never)
        qss_nil))) ?_
  rintro ds M R - ⟨l, h, rfl, hl, hR⟩
  walk_at "v"
  refine ⟨_, rfl, rfl, ?_⟩
  walk_at "v"
  refine ⟨_, rfl, rfl, ?_⟩
  walk_at "v"
  exact ⟨fun z => by omega, fun _ => fin_pure hR⟩
abbrev N_common_divisor : List Str := ["one", "other"]
theorem sc_common_divisor : FnScope N_common_divisor ["one", "other"] (defScope s_common_divisor) := ⟨rfl, rfl, rfl, by decide +kernel, rfl, by decide +kernel, by decide +kernel⟩
def S_common_divisor : DSp := fun ds M R _ => ∃ a b, ds = [.int a, .int b] ∧ R (.int (gcdI a b)) M
theorem gcd_step (x y : Nat) : Nat.gcd x y = Nat.gcd y (x % y) := by rw [Nat.gcd_comm, Nat.gcd_rec, Nat.gcd_comm]
theorem abs_nat (a : Int) : (if a < 0 then -a else a) = (a.natAbs : Int) := by split <;> omega
theorem ok_common_divisor {P : Program} {w : World} {K : PySem.W.Frag} {mg : Str → Option Value} {base : Heap} {C f : Addr} {fd : FuncData} (T : Txt K mg) (F : FunD K "common_divisor" "common_divisor" (defArgs s_common_divisor) (defBody s_common_divisor) (defScope s_common_divisor) [] [] f fd)  : FnOk P w K mg base CX0 1 f fd ["one", "other"] (spD ⟨K, C⟩ 2 S_common_divisor) := by
  have nd := sc_common_divisor.nd
  refine fn_ok 2 2 F sc_common_divisor (fun cdv A outer s H E hr =>
      (qss_cons (qs_par (i := 0) (j := 1) nd (qa_cons (q_cb b_abs rfl T.b_abs bb_abs (qa_cons (qv 0) qa_nil)) (qa_cons (q_cb b_abs rfl T.b_abs bb_abs (qa_cons (qv 1) qa_nil)) qa_nil)))
      (qss_cons (qs_while (qt_cmp c_gt (qv 1) qi)
        (qss_one (qs_par (i := 0) (j := 1) nd (qa_cons (qv 1) (qa_cons (q_mod (qv 0) (qv 1)) qa_nil)))))
      (qss_one (qs_ret (qv 0)))))) ?_
  rintro ds M R - ⟨a, b, rfl, hR⟩
  walk_at "w"
  refine vWhile_of (fun m γ M' => M' = M ∧ ∃ x : Nat, γ = [some (.int x), some (.int m)] ∧ (Nat.gcd x m : Int) = gcdI a b) ⟨b.natAbs, rfl, a.natAbs, ?_, rfl⟩ ?_
  · rw [abs_nat, abs_nat]
  · rintro m γ' _ ⟨rfl, x, rfl, hg⟩
    walk_at "w"
    refine ⟨fun hm => ⟨by omega, x % m, Nat.mod_lt _ (by omega), m, ?_, ?_⟩, fun hm => ?_⟩
    · rw [Int.natCast_emod]
    · rw [← hg, gcd_step x m]
    · have : m = 0 := by omega
      subst this
      rw [Nat.gcd_zero_right] at hg
      rw [hg]
      exact fin_pure hR
abbrev N_fraction : List Str := ["top", "bottom", "common"]
theorem sc_fraction : FnScope N_fraction ["top", "bottom"] (defScope s_fraction) := ⟨rfl, rfl, rfl, by decide +kernel, rfl, by decide +kernel, by decide +kernel⟩
def S_fraction : DSp := fun ds M R _ => ∃ p q : Int, ds = [.int p, .int q] ∧ 1 ≤ q ∧ Sm 9000 q ∧ R (.tup [.int (fr p q).1, .int (fr p q).2]) M
theorem ok_fraction {P : Program} {w : World} {K : PySem.W.Frag} {mg : Str → Option Value} {base : Heap} {C f : Addr} {fd : FuncData} (T : Txt K mg) (F : FunD K "fraction" "fraction" (defArgs s_fraction) (defBody s_fraction) (defScope s_fraction) [] [] f fd) (h_common_divisor : CallOk P w K mg base C 1 "common_divisor" 2 S_common_divisor []) : FnOk P w K mg base CX0 2 f fd ["top", "bottom"] (spD ⟨K, C⟩ 2 S_fraction) := by
  have nd := sc_fraction.nd
  refine fn_ok 3 2 F sc_fraction (fun cdv A outer s H E hr =>
      (qss_cons (qs_if (qt_cmp c_lt (qv 1) qi)
        (qss_one (qs_par (i := 0) (j := 1) nd (qa_cons (q_neg (qv 0)) (qa_cons (q_neg (qv 1)) qa_nil))))
        qss_nil)
      (qss_cons (qs_set (i := 2) nd (qc h_common_divisor hr (by decide) (qa_cons (qv 0) (qa_cons (qv 1) qa_nil))))
      (qss_one (qs_ret (q_tup (qa_cons (q_div (qv 0) (qv 2)) (qa_cons (q_div (qv 1) (qv 2)) qa_nil)))))))) ?_
  rintro ds M R - ⟨p, q, rfl, hq, sq, hR⟩
  have hc : ∀ i, CD i (gcdI p q) := fun i => cd_ok (gcdI_pos hq) (sq.le (Int.le_of_lt (gcdI_pos hq)) (gcdI_le hq)) (by decide)
  walk_at "w"
  refine ⟨fun z => by omega, fun _ => ⟨_, _, rfl, ?_⟩⟩
  walk_at "w"
  exact ⟨hc _, hc _, fin_pure hR⟩
abbrev N_check_whole : List Str := ["value", "least"]
theorem sc_check_whole : FnScope N_check_whole ["value", "least"] (defScope s_check_whole) := ⟨rfl, rfl, rfl, by decide +kernel, rfl, by decide +kernel, by decide +kernel⟩
def S_check_whole : DSp := fun ds M R _ => ∃ i, (ds = [.int i, .non] ∨ ∃ l, ds = [.int i, .int l] ∧ l ≤ i) ∧ R .non M
theorem ok_check_whole {P : Program} {w : World} {K : PySem.W.Frag} {mg : Str → Option Value} {base : Heap} {C f : Addr} {fd : FuncData} (T : Txt K mg) (F : FunD K "check_whole" "check_whole" (defArgs s_check_whole) (defBody s_check_whole) (defScope s_check_whole) [.non] [] f fd) (h_is_whole : CallOk P w K mg base C 1 "is_whole" 1 S_is_whole []) : FnOk P w K mg base CX0 2 f fd ["value", "least"] (spD ⟨K, C⟩ 2 S_check_whole) := by
  have nd := sc_check_whole.nd
  refine fn_ok 2 2 F sc_check_whole (fun cdv A outer s H E hr =>
      (qss_one (qs_if (QW.qt (qw_or (qt_not (qt_val (qc h_is_whole hr (by decide) (qa_cons (qv 0) qa_nil)))) (qw_or1 (QW.qt (qw_and (qt_notN (qv 1)) (qw_and1 (qt_cmp c_lt (qv 0) (qv 1))))))))
        (qss_one qs_never)
        qss_nil))) ?_
  rintro ds M R - ⟨i, h | ⟨l, rfl, hl⟩, hR⟩
  · subst h
    walk_at "v"
    refine ⟨_, rfl, rfl, ?_⟩
    walk_at "v"
    exact fin_pure hR
  · walk_at "v"
    refine ⟨_, rfl, rfl, ?_⟩
    walk_at "v"
    exact ⟨fun h => by omega, fun _ => fin_pure hR⟩
abbrev N_Line_times : List Str := ["self"]
theorem sc_Line_times : FnScope N_Line_times ["self"] (defScope s_Line_times) := ⟨rfl, rfl, rfl, by decide +kernel, rfl, by decide +kernel, by decide +kernel⟩
def S_Line_times : DSp := fun ds M R _ => ∃ t p o, ds = [.ln t p o] ∧ R (.int t) M
theorem e_lt {t p o : Int} {M : Mem} {R : DR} {X : DX} : S_Line_times [.ln t p o] M R X = R (.int t) M := propext ⟨fun ⟨_, _, _, e, h⟩ => by cases e; exact h, fun h => ⟨_, _, _, rfl, h⟩⟩
theorem ok_Line_times {P : Program} {w : World} {K : PySem.W.Frag} {mg : Str → Option Value} {base : Heap} {C f : Addr} {fd : FuncData} (T : Txt K mg) (F : FunD K "times" "Line.times" (defArgs s_Line_times) (defBody s_Line_times) (defScope s_Line_times) [] [] f fd) (cl : Cls K C ∧ NoAttr K C "parts") : FnOk P w K mg base CX0 1 f fd ["self"] (spD ⟨K, C⟩ 1 S_Line_times) := by
  have nd := sc_Line_times.nd
  refine fn_ok 1 1 F sc_Line_times (fun cdv A outer s H E hr =>
      (qss_one (qs_ret (q_ixC 0 (q_parts cl.1 cl.2 (qv 0)))))) ?_
  rintro ds M R - ⟨t, p, o, rfl, hR⟩
  walk_at "w"
  exact fin_pure hR
abbrev N_Line_plus : List Str := ["self"]
theorem sc_Line_plus : FnScope N_Line_plus ["self"] (defScope s_Line_plus) := ⟨rfl, rfl, rfl, by decide +kernel, rfl, by decide +kernel, by decide +kernel⟩
def S_Line_plus : DSp := fun ds M R _ => ∃ t p o, ds = [.ln t p o] ∧ R (.int p) M
theorem e_lp {t p o : Int} {M : Mem} {R : DR} {X : DX} : S_Line_plus [.ln t p o] M R X = R (.int p) M := propext ⟨fun ⟨_, _, _, e, h⟩ => by cases e; exact h, fun h => ⟨_, _, _, rfl, h⟩⟩
theorem ok_Line_plus {P : Program} {w : World} {K : PySem.W.Frag} {mg : Str → Option Value} {base : Heap} {C f : Addr} {fd : FuncData} (T : Txt K mg) (F : FunD K "plus" "Line.plus" (defArgs s_Line_plus) (defBody s_Line_plus) (defScope s_Line_plus) [] [] f fd) (cl : Cls K C ∧ NoAttr K C "parts") : FnOk P w K mg base CX0 1 f fd ["self"] (spD ⟨K, C⟩ 1 S_Line_plus) := by
  have nd := sc_Line_plus.nd
  refine fn_ok 1 1 F sc_Line_plus (fun cdv A outer s H E hr =>
      (qss_one (qs_ret (q_ixC 1 (q_parts cl.1 cl.2 (qv 0)))))) ?_
  rintro ds M R - ⟨t, p, o, rfl, hR⟩
  walk_at "w"
  exact fin_pure hR
abbrev N_Line_over : List Str := ["self"]
theorem sc_Line_over : FnScope N_Line_over ["self"] (defScope s_Line_over) := ⟨rfl, rfl, rfl, by decide +kernel, rfl, by decide +kernel, by decide +kernel⟩
def S_Line_over : DSp := fun ds M R _ => ∃ t p o, ds = [.ln t p o] ∧ R (.int o) M
theorem e_lo {t p o : Int} {M : Mem} {R : DR} {X : DX} : S_Line_over [.ln t p o] M R X = R (.int o) M := propext ⟨fun ⟨_, _, _, e, h⟩ => by cases e; exact h, fun h => ⟨_, _, _, rfl, h⟩⟩
theorem ok_Line_over {P : Program} {w : World} {K : PySem.W.Frag} {mg : Str → Option Value} {base : Heap} {C f : Addr} {fd : FuncData} (T : Txt K mg) (F : FunD K "over" "Line.over" (defArgs s_Line_over) (defBody s_Line_over) (defScope s_Line_over) [] [] f fd) (cl : Cls K C ∧ NoAttr K C "parts") : FnOk P w K mg base CX0 1 f fd ["self"] (spD ⟨K, C⟩ 1 S_Line_over) := by
  have nd := sc_Line_over.nd
  refine fn_ok 1 1 F sc_Line_over (fun cdv A outer s H E hr =>
      (qss_one (qs_ret (q_ixC 2 (q_parts cl.1 cl.2 (qv 0)))))) ?_
  rintro ds M R - ⟨t, p, o, rfl, hR⟩
  walk_at "w"
  exact fin_pure hR
abbrev N_Line___call__ : List Str := ["self", "n"]
theorem sc_Line___call__ : FnScope N_Line___call__ ["self", "n"] (defScope s_Line___call__) := ⟨rfl, rfl, rfl, by decide +kernel, rfl, by decide +kernel, by decide +kernel⟩
def S_Line___call__ : DSp := fun ds M R _ => ∃ t p o n, ds = [.ln t p o, .int n] ∧ IntMulOk t n ∧ CD (t * n + p) o ∧ R (.int (lnV t p o n)) M
theorem ok_Line___call__ {P : Program} {w : World} {K : PySem.W.Frag} {mg : Str → Option Value} {base : Heap} {C f : Addr} {fd : FuncData} (T : Txt K mg) (F : FunD K "__call__" "Line.__call__" (defArgs s_Line___call__) (defBody s_Line___call__) (defScope s_Line___call__) [] [] f fd) (h_check_whole_1 : CallOk P w K mg base C 2 "check_whole" 2 S_check_whole [.non]) (hp_times : POk P w K mg base C 1 "times" S_Line_times) (hp_plus : POk P w K mg base C 1 "plus" S_Line_plus) (hp_over : POk P w K mg base C 1 "over" S_Line_over) : FnOk P w K mg base CX0 3 f fd ["self", "n"] (spD ⟨K, C⟩ 2 S_Line___call__) := by
  have nd := sc_Line___call__.nd
  refine fn_ok 2 2 F sc_Line___call__ (fun cdv A outer s H E hr =>
      (qss_cons (qs_expr (qc h_check_whole_1 hr (by decide) (qa_cons (qv 1) qa_nil)))
      (qss_one (qs_ret (q_div (q_add (q_mul (q_prop hp_times hr (by decide) (qv 0)) (qv 1)) (q_prop hp_plus hr (by decide) (qv 0))) (q_prop hp_over hr (by decide) (qv 0))))))) ?_
  rintro ds M R - ⟨t, p, o, n, rfl, hm, hd, hR⟩
  walk_at "w"
  refine ⟨_, .inl rfl, ?_⟩
  walk_at "w"
  refine ⟨_, _, _, rfl, ?_⟩
  walk_at "w"
  refine ⟨hm, _, _, _, rfl, ?_⟩
  walk_at "w"
  refine ⟨_, _, _, rfl, ?_⟩
  walk_at "w"
  exact ⟨hd, fin_pure hR⟩
abbrev N_lowered : List Str := ["way", "times", "plus", "over", "top", "slope", "weight"]
theorem sc_lowered : FnScope N_lowered ["way"] (defScope s_lowered) := ⟨rfl, rfl, rfl, by decide +kernel, rfl, by decide +kernel, by decide +kernel⟩
def qsD (q : Qs) : D := .tup [.int q.t, .int q.p, .int q.o, .int q.L, .int q.s, .int q.w]
def S_lowered : DSp := fun ds M R _ => ∃ q : Qs, ds = [wyD q] ∧ R (qsD (lowQ q.n)) M
theorem ok_lowered {P : Program} {w : World} {K : PySem.W.Frag} {mg : Str → Option Value} {base : Heap} {C f : Addr} {fd : FuncData} (T : Txt K mg) (F : FunD K "lowered" "lowered" (defArgs s_lowered) (defBody s_lowered) (defScope s_lowered) [] [] f fd)  : FnOk P w K mg base CX0 1 f fd ["way"] (spD ⟨K, C⟩ 1 S_lowered) := by
  have nd := sc_lowered.nd
  refine fn_ok 7 1 F sc_lowered (fun cdv A outer s H E hr =>
      (qss_cons (qs_asg (qv 0) (qg_tup (n := 6) (qgs_cons (qg_name (i := 1) nd) (qgs_cons (qg_name (i := 2) nd) (qgs_cons (qg_name (i := 3) nd) (qgs_cons (qg_name (i := 4) nd) (qgs_cons (qg_name (i := 5) nd) (qgs_cons (qg_name (i := 6) nd) qgs_nil))))))))
      (qss_cons (qs_if (qt_cmp c_gt (qv 6) qi)
        (qss_one (qs_ret (q_tup (qa_cons (qv 3) (qa_cons (q_sub (q_add (q_sub (qv 3) (qv 2)) (qv 1)) qi) (qa_cons (qv 1) (qa_cons (q_sub (qv 4) qi) (qa_cons (qv 6) (qa_cons (qv 5) qa_nil)))))))))
        qss_nil)
      (qss_one (qs_ret (q_tup (qa_cons (qv 3) (qa_cons (q_sub (q_sub (qv 3) (qv 2)) qi) (qa_cons (qv 1) (qa_cons (q_sub (qv 4) qi) (qa_cons (qv 6) (qa_cons (qv 5) qa_nil)))))))))))) ?_
  rintro ds M R - ⟨q, rfl, hR⟩
  simp only [wyD]
  walk_at "w"
  unfold lowQ at hR
  refine ⟨fun h => ?_, fun h => ?_⟩
  · rw [if_pos (show q.n.w > 0 from h)] at hR
    exact fin_pure hR
  · rw [if_neg (show ¬ q.n.w > 0 from h)] at hR
    exact fin_pure hR
abbrev N_raised : List Str := ["value", "place", "fixed", "last", "way", "times", "plus", "over", "top", "slope", "weight"]
theorem sc_raised : FnScope N_raised ["value", "place", "fixed", "last", "way"] (defScope s_raised) := ⟨rfl, rfl, rfl, by decide +kernel, rfl, by decide +kernel, by decide +kernel⟩
def S_raised : DSp := fun ds M R _ => ∃ (q : Qs) (v y : Int), ds = [.int v, .int y, .int q.fx, .int q.L, wyD q] ∧ QOk q ∧ ¬ Brk q.n ∧ Ans (lowQ q.n) v y ∧ R (.tup [.int (raiM q.n q.fx v y).1, .int (raiM q.n q.fx v y).2]) M
theorem ok_raised {P : Program} {w : World} {K : PySem.W.Frag} {mg : Str → Option Value} {base : Heap} {C f : Addr} {fd : FuncData} (T : Txt K mg) (F : FunD K "raised" "raised" (defArgs s_raised) (defBody s_raised) (defScope s_raised) [] [] f fd)  : FnOk P w K mg base CX0 1 f fd ["value", "place", "fixed", "last", "way"] (spD ⟨K, C⟩ 5 S_raised) := by
  have nd := sc_raised.nd
  refine fn_ok 11 5 F sc_raised (fun cdv A outer s H E hr =>
      (qss_cons (qs_asg (qv 4) (qg_tup (n := 6) (qgs_cons (qg_name (i := 5) nd) (qgs_cons (qg_name (i := 6) nd) (qgs_cons (qg_name (i := 7) nd) (qgs_cons (qg_name (i := 8) nd) (qgs_cons (qg_name (i := 9) nd) (qgs_cons (qg_name (i := 10) nd) qgs_nil))))))))
      (qss_cons (qs_if (qt_cmp c_gt (qv 10) qi)
        (qss_cons (qs_if (qt_cmp c_le (q_add (qv 0) (qv 10)) qi)
          (qss_one (qs_ret (q_tup (qa_cons (qv 2) (qa_cons qi qa_nil)))))
          qss_nil)
        (qss_one (qs_ret (q_tup (qa_cons (q_add (q_add (qv 2) (qv 0)) (qv 10)) (qa_cons (q_div (q_sub (q_add (q_sub (q_add (q_mul (qv 7) (qv 1)) (qv 7)) (qv 6)) (qv 5)) qi) (qv 5)) qa_nil))))))
        qss_nil)
      (qss_cons (qs_if (qt_cmp c_ge (q_add (q_mul (qv 9) (qv 3)) (q_mul (qv 10) (qv 8))) (qv 0))
        (qss_one (qs_ret (q_tup (qa_cons (q_add (q_add (qv 2) (q_mul (qv 9) (qv 3))) (q_mul (qv 10) (qv 8))) (qa_cons (qv 3) qa_nil)))))
        qss_nil)
      (qss_one (qs_ret (q_tup (qa_cons (q_add (qv 2) (qv 0)) (qa_cons (q_div (q_sub (q_sub (q_add (q_mul (qv 7) (qv 1)) (qv 7)) (qv 6)) qi) (qv 5)) qa_nil))))))))) ?_
  rintro ds M R - ⟨q, v, y, rfl, ok, hb, A, hR⟩
  have N := q.nm ok.o0 ok.L0
  have ht : q.n.top ≠ 0 := fun z => hb (.inl z)
  have tp := t_pos N ht
  have l := ok.low hb
  have sy : Sm 3000 y := l.1.sL.le A.x0 A.xL
  have st : Sm 3000 q.n.t := ok.so.le N.t0 (Int.le_of_lt N.t1)
  have stop : Sm 3000 q.n.top := ok.sL.le N.top0 N.topL
  have ss := ok.sn
  have sw := ok.sw
  have mo : IntMulOk q.n.o y := mul_ok ok.so sy (by decide)
  have m1 : IntMulOk q.n.s q.L := mul_ok ss ok.sL (by decide)
  have m2 : IntMulOk q.n.w q.n.top := mul_ok sw stop (by decide)
  have cd : ∀ i, CD i q.n.t := fun i => cd_ok tp st (by decide)
  simp only [wyD]
  walk_at "w"
  unfold raiM at hR
  refine ⟨fun h => ⟨fun h2 => ?_, fun h2 => ⟨mo, cd _, ?_⟩⟩, fun h => ⟨m1, m2, fun h2 => ⟨m1, m2, ?_⟩, fun h2 => ⟨mo, cd _, ?_⟩⟩⟩
  · rw [if_pos (show q.n.w > 0 from h), if_pos h2] at hR
    exact fin_pure hR
  · rw [if_pos (show q.n.w > 0 from h), if_neg h2] at hR
    exact fin_pure hR
  · rw [if_neg (show ¬ q.n.w > 0 from h), if_pos (show q.n.s * q.n.L + q.n.w * q.n.top ≥ v from h2)] at hR
    exact fin_pure hR
  · rw [if_neg (show ¬ q.n.w > 0 from h), if_neg (show ¬ q.n.s * q.n.L + q.n.w * q.n.top ≥ v from h2)] at hR
    exact fin_pure hR
abbrev N_greatest : List Str := ["times", "plus", "over", "last", "slope", "weight", "path", "fixed", "top", "way", "place", "value"]
theorem sc_greatest : FnScope N_greatest ["times", "plus", "over", "last", "slope", "weight"] (defScope s_greatest) := ⟨rfl, rfl, rfl, by decide +kernel, rfl, by decide +kernel, by decide +kernel⟩
structure Q0 (q : Qs) : Prop where
  o0 : 0 < q.o
  L0 : 0 ≤ q.L
  st : Sm 3000 q.t
  sp : Sm 3000 q.p
  so : Sm 3000 q.o
  sL : Sm 3000 q.L
  ss : Sm 3000 q.s
  sw : Sm 3000 q.w
def S_greatest : DSp := fun ds M R _ => ∃ q : Qs, ds = [.int q.t, .int q.p, .int q.o, .int q.L, .int q.s, .int q.w] ∧ Q0 q ∧ ∀ v x, Ans q v x → R (.tup [.int v, .int x]) M
theorem ok_greatest {P : Program} {w : World} {K : PySem.W.Frag} {mg : Str → Option Value} {base : Heap} {C f : Addr} {fd : FuncData} (T : Txt K mg) (F : FunD K "greatest" "greatest" (defArgs s_greatest) (defBody s_greatest) (defScope s_greatest) [] [] f fd) (h_lowered : CallOk P w K mg base C 1 "lowered" 1 S_lowered []) (h_raised : CallOk P w K mg base C 1 "raised" 5 S_raised []) : FnOk P w K mg base CX0 2 f fd ["times", "plus", "over", "last", "slope", "weight"] (spD ⟨K, C⟩ 6 S_greatest) := by
  have nd := sc_greatest.nd
  refine fn_ok 12 6 F sc_greatest (fun cdv A outer s H E hr =>
      (qss_cons (qs_set (i := 6) nd (q_lstO qa_nil))
      (qss_cut (qs_while (qt_val qb)
        (qss_cons (qs_set (i := 7) nd (q_mul (qv 5) (q_div (qv 1) (qv 2))))
        (qss_cons (qs_augG ip_add (i := 4) nd (q_mul (qv 5) (q_div (qv 0) (qv 2))))
        (qss_cons (qs_par (i := 0) (j := 1) nd (qa_cons (q_mod (qv 0) (qv 2)) (qa_cons (q_mod (qv 1) (qv 2)) qa_nil)))
        (qss_cons (qs_set (i := 8) nd (q_div (q_add (q_mul (qv 0) (qv 3)) (qv 1)) (qv 2)))
        (qss_cut (qs_if (QW.qt (qw_or (qt_cmp (c_eq hr) (qv 8) qi) (qw_or (qt_cmp (c_eq hr) (qv 5) qi) (qw_or (QW.qt (qw_and (qt_cmp c_ge (qv 4) qi) (qw_and1 (qt_cmp c_gt (qv 5) qi)))) (qw_or1 (QW.qt (qw_and (qt_cmp c_le (qv 4) qi) (qw_and1 (qt_cmp c_lt (qv 5) qi)))))))))
          (qss_one qs_break)
          qss_nil)
        (qss_cons (qs_set (i := 9) nd (q_tup (qa_cons (qv 0) (qa_cons (qv 1) (qa_cons (qv 2) (qa_cons (qv 8) (qa_cons (qv 4) (qa_cons (qv 5) qa_nil))))))))
        (qss_cons (qs_expr (q_append (qv 6) (q_tup (qa_cons (qv 7) (qa_cons (qv 3) (qa_cons (qv 9) qa_nil))))))
        (qss_one (qs_asg (qc h_lowered hr (by decide) (qa_cons (qv 9) qa_nil)) (qg_tup (n := 6) (qgs_cons (qg_name (i := 0) nd) (qgs_cons (qg_name (i := 1) nd) (qgs_cons (qg_name (i := 2) nd) (qgs_cons (qg_name (i := 3) nd) (qgs_cons (qg_name (i := 4) nd) (qgs_cons (qg_name (i := 5) nd) qgs_nil)))))))))))))))))
      (qss_cut (qs_set (i := 10) nd (q_ite (QW.qt (qw_or (qt_cmp c_gt (qv 4) qi) (qw_or1 (QW.qt (qw_and (qt_cmp (c_eq hr) (qv 4) qi) (qw_and1 (qt_cmp c_gt (qv 5) qi))))))) (qv 3) qi))
      (qss_cons (qs_set (i := 11) nd (q_add (q_add (qv 7) (q_mul (qv 4) (qv 10))) (q_mul (qv 5) (q_div (q_add (q_mul (qv 0) (qv 10)) (qv 1)) (qv 2)))))
      (qss_cons (qs_while (qt_cmp (c_ne hr) (qv 6) (q_lst qa_nil))
        (qss_cons (qs_asg (q_pop (qv 6)) (qg_tup (n := 3) (qgs_cons (qg_name (i := 7) nd) (qgs_cons (qg_name (i := 3) nd) (qgs_cons (qg_name (i := 9) nd) qgs_nil)))))
        (qss_one (qs_asg (qc h_raised hr (by decide) (qa_cons (qv 11) (qa_cons (qv 10) (qa_cons (qv 7) (qa_cons (qv 3) (qa_cons (qv 9) qa_nil)))))) (qg_tup (n := 2) (qgs_cons (qg_name (i := 11) nd) (qgs_cons (qg_name (i := 10) nd) qgs_nil)))))))
      (qss_one (qs_ret (q_tup (qa_cons (qv 11) (qa_cons (qv 10) qa_nil))))))))))) ?_
  rintro ds M R - ⟨Q, rfl, h0, hR⟩
  walk_at "w"
  intro p hp
  refine ⟨fun γ M' => ∃ es q y9, γ = [some (.int q.n.t), some (.int q.n.p), some (.int q.n.o), some (.int q.n.L), some (.int q.n.s), some (.int q.n.w), some (.own p), some (.int q.fx), some (.int q.n.top), y9, none, none] ∧ M' = mset M p (.lst (es.reverse.map peD)) ∧ Pth Q es q ∧ QOk q ∧ Brk q.n, ?_, ?_⟩
  · refine vWhile_of (fun m γ M' => ∃ es q y7 y8 y9, γ = [some (.int q.t), some (.int q.p), some (.int q.o), some (.int q.L), some (.int q.s), some (.int q.w), some (.own p), y7, y8, y9, none, none] ∧ M' = mset M p (.lst (es.reverse.map peD)) ∧ Pth Q es q ∧ QOk q ∧ m = q.o.toNat) ⟨_, [], Q, _, _, _, rfl, rfl, .nil, ⟨h0.o0, h0.L0, h0.st, h0.sp.mono (by decide), h0.so, h0.sL, h0.ss.mono (by decide), h0.sw.mono (by decide), .inl ⟨h0.ss, h0.sw⟩⟩, rfl⟩ ?_
    rintro m γ' _ ⟨es, q, y7, y8, y9, rfl, rfl, P, ok, rfl⟩
    have N := q.nm ok.o0 ok.L0
    have cd : ∀ i, CD i q.o := fun i => cd_ok ok.o0 ok.so (by decide)
    have st : Sm 3000 q.n.t := ok.so.le N.t0 (Int.le_of_lt N.t1)
    walk_at "w"
    refine ⟨cd _, mul_ok ok.sw (ok.sp.div ok.o0) (by decide), cd _, mul_ok ok.sw (ok.st.div ok.o0) (by decide), ok.o0, ok.o0, mul_ok st ok.sL (by decide), cd _, ?_⟩
    have brk : Brk q.n → ∃ es' q' y9', [some (D.int (q.t % q.o)), some (D.int (q.p % q.o)), some (D.int q.o), some (D.int q.L), some (D.int (q.s + q.w * (q.t / q.o))), some (D.int q.w), some (D.own p), some (D.int (q.w * (q.p / q.o))), some (D.int ((q.t % q.o * q.L + q.p % q.o) / q.o)), y9, none, none] =
        [some (D.int q'.n.t), some (D.int q'.n.p), some (D.int q'.n.o), some (D.int q'.n.L), some (D.int q'.n.s), some (D.int q'.n.w), some (D.own p), some (D.int q'.fx), some (D.int q'.n.top), y9', none, none] ∧ mset M p (MO.lst (List.map peD es.reverse)) = mset M p (MO.lst (List.map peD es'.reverse)) ∧ Pth Q es' q' ∧ QOk q' ∧ Brk q'.n := fun b => ⟨es, q, _, rfl, rfl, P, ok, b⟩
    refine ⟨fun γ M2 => γ = [some (.int q.n.t), some (.int q.n.p), some (.int q.o), some (.int q.L), some (.int q.n.s), some (.int q.w), some (.own p), some (.int q.fx), some (.int q.n.top), y9, none, none] ∧ M2 = mset M p (.lst (es.reverse.map peD)) ∧ ¬ Brk q.n, ?_, ?_⟩
    · walk_at "w"
      have nb : ¬ q.n.top = 0 → ¬ q.w = 0 → ¬ (0 ≤ q.n.s ∧ 0 < q.w) → ¬ (q.n.s ≤ 0 ∧ q.w < 0) → ¬ Brk q.n := fun a b c d z => by
        rcases z with z | z | z | z
        · exact a z
        · exact b z
        · exact c z
        · exact d z
      refine ⟨fun h => brk (.inl h), fun h1 => ⟨fun h => brk (.inr (.inl h)), fun h2 => ⟨fun h3 => ⟨fun h4 => brk (.inr (.inr (.inl ⟨h3, h4⟩))), fun h4 => ⟨fun h5 => ⟨fun h6 => brk (.inr (.inr (.inr ⟨h5, h6⟩))), fun h6 => ⟨rfl, nb h1 h2 (fun z => h4 z.2) (fun z => h6 z.2)⟩⟩, fun h5 => ⟨rfl, nb h1 h2 (fun z => h4 z.2) (fun z => h5 z.1)⟩⟩⟩, fun h3 => ⟨fun h5 => ⟨fun h6 => brk (.inr (.inr (.inr ⟨h5, h6⟩))), fun h6 => ⟨rfl, nb h1 h2 (fun z => h3 z.1) (fun z => h6 z.2)⟩⟩, fun h5 => ⟨rfl, nb h1 h2 (fun z => h3 z.1) (fun z => h5 z.1)⟩⟩⟩⟩⟩
    · rintro _ _ ⟨rfl, rfl, nb⟩
      have low := ok.low nb
      walk_at "w"
      refine ⟨?_, ?_⟩
      · rw [List.length_map, List.length_reverse]
        exact Nat.lt_of_le_of_lt (pth_len P) (by decide)
      refine ⟨q, rfl, ?_⟩
      simp only [qsD]
      walk_at "w"
      refine ⟨(lowQ q.n).o.toNat, ?_, q :: es, lowQ q.n, _, _, _, rfl, ?_, .cons P ok nb, low.1, rfl⟩
      · have := low.1.o0; have := low.2; omega
      · rw [← rev_snoc]; rfl
  rintro _ _ ⟨es, q, y9, rfl, rfl, P, ok, b⟩
  have N := q.nm ok.o0 ok.L0
  have cd : ∀ i, CD i q.n.o := fun i => cd_ok ok.o0 ok.so (by decide)
  have st : Sm 3000 q.n.t := ok.so.le N.t0 (Int.le_of_lt N.t1)
  have A0 : Ans q (q.fx + q.n.f (plM q.n)) (plM q.n) := (brk_ans N b).of_n ok.o0
  have spl : Sm 3000 (plM q.n) := ok.sL.le A0.x0 A0.xL
  refine ⟨fun γ M2 => γ = [some (.int q.n.t), some (.int q.n.p), some (.int q.n.o), some (.int q.n.L), some (.int q.n.s), some (.int q.n.w), some (.own p), some (.int q.fx), some (.int q.n.top), y9, some (.int (plM q.n)), none] ∧ M2 = mset M p (.lst (es.reverse.map peD)), ?_, ?_⟩
  · walk_at "w"
    have e1 : (q.n.s > 0 ∨ (q.n.s = 0 ∧ q.n.w > 0)) → plM q.n = q.n.L := fun c => by unfold plM; rw [if_pos c]
    have e2 : ¬ (q.n.s > 0 ∨ (q.n.s = 0 ∧ q.n.w > 0)) → plM q.n = 0 := fun c => by unfold plM; rw [if_neg c]
    refine ⟨fun h => by rw [e1 (.inl h)], fun h => ⟨fun h2 => ⟨fun h3 => by rw [e1 (.inr ⟨h2, h3⟩)], fun h3 => by rw [e2 (by rintro (z | z); exact h z; exact h3 z.2)]⟩, fun h2 => by rw [e2 (by rintro (z | z); exact h z; exact h2 z.1)]⟩⟩
  rintro _ _ ⟨rfl, rfl⟩
  have s1 := ok.sn
  have s2 := ok.sw
  walk_at "w"
  refine ⟨mul_ok s1 spl (by decide), mul_ok st spl (by decide), cd _, mul_ok (a := 6001) (b := 6001) s2 ?_ (by decide), ?_⟩
  · refine Sm.div (Sm.add (a := 6000) (st.mul spl) ?_) ok.o0
    exact (ok.so.le N.p0 (Int.le_of_lt N.p1)).mono (by decide)
  refine vWhile_of (fun m γ M' => ∃ es' q' v x y3 y7 y9, γ = [some (.int q.n.t), some (.int q.n.p), some (.int q.n.o), some (.int y3), some (.int q.n.s), some (.int q.n.w), some (.own p), some (.int y7), some (.int q.n.top), y9, some (.int x), some (.int v)] ∧ M' = mset M p (.lst (es'.reverse.map peD)) ∧ Pth Q es' q' ∧ Ans q' v x ∧ m = es'.length) ⟨_, es, q, _, plM q.n, _, _, _, rfl, rfl, P, ?_, rfl⟩ ?_
  · have e : q.fx + q.n.s * plM q.n + q.n.w * ((q.n.t * plM q.n + q.n.p) / q.n.o) = q.fx + q.n.f (plM q.n) := by unfold Qs.f; omega
    rw [e]
    exact A0
  rintro m γ' _ ⟨es', q', v, x, y3, y7, y9, rfl, rfl, P', A, rfl⟩
  walk_at "w"
  refine eqG_none mset_same (by show cmpL 63 _ = true; exact cmp_pe 61 _) (fun hz => ?_) (fun hz => ?_)
  · have he : es' = [] := by
      cases es' with
      | nil => rfl
      | cons e r => simp at hz
    subst he
    cases P'
    walk_at "w"
    exact fin_drop hp (hR v x A)
  · cases P' with
    | nil => exact absurd rfl hz
    | cons P2 ok2 nb2 =>
      rename_i es2 q2
      walk_at "w"
      rw [← rev_snoc, List.length_append, List.length_singleton, Nat.add_sub_cancel, List.getElem?_append_right (Nat.le_refl _), Nat.sub_self, List.getElem?_cons_zero, List.dropLast_concat]
      simp only [peD]
      walk_at "w"
      refine ⟨q2, v, x, rfl, ok2, nb2, A, ?_⟩
      walk_at "w"
      exact ⟨es2.length, by simp, es2, q2, _, _, _, _, _, rfl, rfl, P2, rai_ans ok2.o0 ok2.L0 nb2 A, rfl⟩
abbrev N_place_of : List Str := ["line", "low", "high", "slope", "weight", "late", "many", "lean", "start", "value", "place"]
theorem sc_place_of : FnScope N_place_of ["line", "low", "high", "slope", "weight", "late"] (defScope s_place_of) := ⟨rfl, rfl, rfl, by decide +kernel, rfl, by decide +kernel, by decide +kernel⟩
def S_place_of : DSp := fun ds M R _ => ∃ (x : Tr) (l h s w : Int) (late : Bool), ds = [trL x, .int l, .int h, .int s, .int w, .bl late] ∧ DOk x l h ∧ Sm 2300 s ∧ Sm 2300 w ∧ ∀ n, IsArg (gq x s w) l h late n → R (.int n) M
theorem ok_place_of {P : Program} {w : World} {K : PySem.W.Frag} {mg : Str → Option Value} {base : Heap} {C f : Addr} {fd : FuncData} (T : Txt K mg) (F : FunD K "place_of" "place_of" (defArgs s_place_of) (defBody s_place_of) (defScope s_place_of) [] [] f fd) (hp_times : POk P w K mg base C 1 "times" S_Line_times) (hp_plus : POk P w K mg base C 1 "plus" S_Line_plus) (h_greatest : CallOk P w K mg base C 2 "greatest" 6 S_greatest []) (hp_over : POk P w K mg base C 1 "over" S_Line_over) : FnOk P w K mg base CX0 3 f fd ["line", "low", "high", "slope", "weight", "late"] (spD ⟨K, C⟩ 6 S_place_of) := by
  have nd := sc_place_of.nd
  refine fn_ok 11 6 F sc_place_of (fun cdv A outer s H E hr =>
      (qss_cons (qs_set (i := 6) nd (q_add (q_sub (qv 2) (qv 1)) qi))
      (qss_cut (qs_set (i := 7) nd (q_ite (qt_val (qv 5)) qi (q_neg qi)))
      (qss_cons (qs_set (i := 8) nd (q_add (q_mul (q_prop hp_times hr (by decide) (qv 0)) (qv 1)) (q_prop hp_plus hr (by decide) (qv 0))))
      (qss_cons (qs_asg (qc h_greatest hr (by decide) (qa_cons (q_prop hp_times hr (by decide) (qv 0)) (qa_cons (qv 8) (qa_cons (q_prop hp_over hr (by decide) (qv 0)) (qa_cons (q_sub (qv 2) (qv 1)) (qa_cons (q_add (q_mul (qv 3) (qv 6)) (qv 7)) (qa_cons (q_mul (qv 4) (qv 6)) qa_nil))))))) (qg_tup (n := 2) (qgs_cons (qg_name (i := 9) nd) (qgs_cons (qg_name (i := 10) nd) qgs_nil))))
      (qss_one (qs_ret (q_add (qv 1) (qv 10))))))))) ?_
  rintro ds M R - ⟨x, l, h, s, w, late, rfl, d, ss, sw, hR⟩
  have hlh := d.lh
  have sN : Sm 502 (h - l + 1) := Sm.add (a := 501) (Sm.sub d.sh d.sl) ((show Sm 1 1 by decide).mono (by decide))
  simp only [trL]
  walk_at "w"
  refine ⟨fun γ M2 => γ = [some (.ln x.1 x.2.1 x.2.2), some (.int l), some (.int h), some (.int s), some (.int w), some (.bl late), some (.int (h - l + 1)), some (.int (if late then 1 else -1)), none, none, none] ∧ M2 = M, ?_, ?_⟩
  · walk_at "w"
    cases late
    · exact ⟨fun z => (nomatch z), fun _ => rfl⟩
    · exact ⟨fun _ => rfl, fun z => (nomatch z)⟩
  rintro _ _ ⟨rfl, rfl⟩
  walk_at "w"
  refine ⟨_, _, _, rfl, ?_⟩
  walk_at "w"
  refine ⟨mul_ok d.st d.sl (by decide), ?_⟩
  refine ⟨_, _, _, rfl, ?_⟩
  walk_at "w"
  refine ⟨_, _, _, rfl, ?_⟩
  walk_at "w"
  refine ⟨_, _, _, rfl, ?_⟩
  walk_at "w"
  have e1 : Sm 1 (if late then (1 : Int) else -1) := by cases late <;> decide
  refine ⟨mul_ok ss sN (by decide), mul_ok sw sN (by decide), qOf x l h (s * (h - l + 1) + (if late then 1 else -1)) (w * (h - l + 1)), rfl, ⟨by show 0 < x.2.2; have := d.o1; omega, by show 0 ≤ h - l; omega, d.st.mono (by decide), (Sm.add (a := 1000) (d.st.mul d.sl) (d.sp.mono (by decide))).mono (by decide), d.so.mono (by decide), (Sm.sub d.sh d.sl).mono (by decide), (Sm.add (a := 2802) (ss.mul sN) (e1.mono (by decide))).mono (by decide), (sw.mul sN).mono (by decide)⟩, fun v y A => ?_⟩
  walk_at "w"
  exact fin_pure (hR _ (place_of_ok late hlh A))
abbrev N_low_slope : List Str := ["line", "low", "high", "found", "top", "bottom", "later", "first"]
theorem sc_low_slope : FnScope N_low_slope ["line", "low", "high"] (defScope s_low_slope) := ⟨rfl, rfl, rfl, by decide +kernel, rfl, by decide +kernel, by decide +kernel⟩
def S_low_slope : DSp := fun ds M R _ => ∃ (x : Tr) (l h : Int), ds = [trL x, .int l, .int h] ∧ DOk x l h ∧ l < h ∧ ∀ p q, LowS (vl x) l h p q → R (.tup [.int p, .int q]) M
theorem lowP_sm {x : Tr} {l h p q : Int} (d : DOk x l h) (P : LowP (vl x) l h p q) : Sm 1003 p ∧ Sm 501 q := by
  have q1 := P.q1
  have sq : Sm 501 q := (Sm.sub d.sh d.sl).le (by omega) P.qN
  refine ⟨?_, sq⟩
  obtain ⟨a, b, a1, ab, b1, e⟩ := P.ex
  have s1 := d.num a1 (by omega) (by omega) b1
  -- p (b - a) = q (..): p is a part of (..)
  have hd : q ∣ p * (b - a) := ⟨_, e⟩
  have hq := cop_dvd P.cop hd
  obtain ⟨k, hk⟩ := hq
  rw [hk, Int.mul_left_comm] at e
  have e2 : p * k = vl x b - vl x a - 1 := Int.eq_of_mul_eq_mul_left (show q ≠ 0 by omega) e
  have k1 : 1 ≤ k := by
    rcases Int.lt_or_le 0 k with c | c
    · omega
    · have := Int.mul_nonpos_of_nonneg_of_nonpos (show 0 ≤ q by omega) c
      omega
  unfold Sm at s1 ⊢
  rw [← e2, Int.natAbs_mul] at s1
  have : p.natAbs * 1 ≤ p.natAbs * k.natAbs := Nat.mul_le_mul_left _ (by omega)
  omega
theorem ok_low_slope {P : Program} {w : World} {K : PySem.W.Frag} {mg : Str → Option Value} {base : Heap} {C f : Addr} {fd : FuncData} (T : Txt K mg) (F : FunD K "low_slope" "low_slope" (defArgs s_low_slope) (defBody s_low_slope) (defScope s_low_slope) [] [] f fd) (h_fraction : CallOk P w K mg base C 2 "fraction" 2 S_fraction []) (h_callO : COk P w K mg base C 3 2 S_Line___call__) (h_place_of : CallOk P w K mg base C 3 "place_of" 6 S_place_of []) : FnOk P w K mg base CX0 4 f fd ["line", "low", "high"] (spD ⟨K, C⟩ 3 S_low_slope) := by
  have nd := sc_low_slope.nd
  refine fn_ok 8 3 F sc_low_slope (fun cdv A outer s H E hr =>
      (qss_cons (qs_set (i := 3) nd (qc h_fraction hr (by decide) (qa_cons (q_sub (q_sub (q_callO h_callO hr (by decide) (qv 0) (qa_cons (qv 2) qa_nil)) (q_callO h_callO hr (by decide) (qv 0) (qa_cons (qv 1) qa_nil))) qi) (qa_cons (q_sub (qv 2) (qv 1)) qa_nil))))
      (qss_one (qs_while (qt_val qb)
        (qss_cons (qs_asg (qv 3) (qg_tup (n := 2) (qgs_cons (qg_name (i := 4) nd) (qgs_cons (qg_name (i := 5) nd) qgs_nil))))
        (qss_cons (qs_set (i := 6) nd (qc h_place_of hr (by decide) (qa_cons (qv 0) (qa_cons (qv 1) (qa_cons (qv 2) (qa_cons (q_neg (qv 4)) (qa_cons (qv 5) (qa_cons qb qa_nil))))))))
        (qss_cons (qs_set (i := 7) nd (qc h_place_of hr (by decide) (qa_cons (qv 0) (qa_cons (qv 1) (qa_cons (qv 2) (qa_cons (qv 4) (qa_cons (q_neg (qv 5)) (qa_cons qb qa_nil))))))))
        (qss_cons (qs_if (qt_cmp c_le (q_mul (qv 5) (q_sub (q_sub (q_callO h_callO hr (by decide) (qv 0) (qa_cons (qv 6) qa_nil)) (q_callO h_callO hr (by decide) (qv 0) (qa_cons (qv 7) qa_nil))) qi)) (q_mul (qv 4) (q_sub (qv 6) (qv 7))))
          (qss_one (qs_ret (qv 3)))
          qss_nil)
        (qss_one (qs_set (i := 3) nd (qc h_fraction hr (by decide) (qa_cons (q_sub (q_sub (q_callO h_callO hr (by decide) (qv 0) (qa_cons (qv 6) qa_nil)) (q_callO h_callO hr (by decide) (qv 0) (qa_cons (qv 7) qa_nil))) qi) (qa_cons (q_sub (qv 6) (qv 7)) qa_nil))))))))))))) ?_
  rintro ds M R - ⟨x, l, h, rfl, d, hl, hR⟩
  have cd : ∀ i, CD i x.2.2 := fun i => cd_ok (by have := d.o1; omega) d.so (by decide)
  have mt : ∀ n, l ≤ n → n ≤ h → IntMulOk x.1 n := fun n a b => mul_ok d.st (sm_between d.sl d.sh a b) (by decide)
  have o1 := d.o1
  simp only [trL]
  walk_at "w"
  refine ⟨_, _, _, _, rfl, mt h (by omega) (by omega), cd _, ?_⟩
  walk_at "w"
  refine ⟨_, _, _, _, rfl, mt l (by omega) (by omega), cd _, ?_⟩
  walk_at "w"
  refine ⟨_, _, rfl, by omega, (Sm.sub d.sh d.sl).mono (by decide), ?_⟩
  walk_at "w"
  have slp := slp_self (x := x) (l := l) (h := h) o1
  refine vWhile_of (fun m γ M' => M' = M ∧ ∃ p q y4 y5 y6 y7, LowP (vl x) l h p q ∧ m = lowM (h - l).toNat x.1 x.2.2 p q ∧ γ = [some (.ln x.1 x.2.1 x.2.2), some (.int l), some (.int h), some (.tup [.int p, .int q]), y4, y5, y6, y7]) ⟨_, rfl, _, _, _, _, _, _, low_start hl, rfl, rfl⟩ ?_
  rintro m γ' _ ⟨rfl, p, q, y4, y5, y6, y7, P, rfl, rfl⟩
  obtain ⟨sp, sq⟩ := lowP_sm d P
  walk_at "w"
  refine ⟨x, l, h, _, _, false, rfl, d, sp.neg.mono (by decide), sq.mono (by decide), fun b B => ?_⟩
  walk_at "w"
  refine ⟨x, l, h, _, _, false, rfl, d, sp.mono (by decide), sq.neg.mono (by decide), fun a A => ?_⟩
  walk_at "w"
  refine ⟨_, _, _, _, rfl, mt b B.l0 B.h0, cd _, ?_⟩
  walk_at "w"
  refine ⟨_, _, _, _, rfl, mt a A.l0 A.h0, cd _, ?_⟩
  walk_at "w"
  have sn := d.num A.l0 A.h0 B.l0 B.h0
  have sba : Sm 501 (b - a) := Sm.sub (sm_between d.sl d.sh B.l0 B.h0) (sm_between d.sl d.sh A.l0 A.h0)
  refine ⟨mul_ok sq sn (by decide), mul_ok sp sba (by decide), fun c => ?_, fun c => ?_⟩
  · exact fin_pure (hR p q (low_done P B A c))
  · obtain ⟨ab, P', up⟩ := low_next o1 P B A c
    refine ⟨_, _, _, _, rfl, mt b B.l0 B.h0, cd _, ?_⟩
    walk_at "w"
    refine ⟨_, _, _, _, rfl, mt a A.l0 A.h0, cd _, ?_⟩
    walk_at "w"
    refine ⟨_, _, rfl, by omega, sba.mono (by decide), ?_⟩
    walk_at "w"
    refine ⟨_, lowM_lt o1 P.q1 (by have := P.qN; omega) P'.q1 (by have := P'.qN; omega) up (P'.lt slp), _, _, _, _, _, _, P', rfl, rfl⟩
abbrev N_check_parts : List Str := ["times", "plus", "over"]
theorem sc_check_parts : FnScope N_check_parts ["times", "plus", "over"] (defScope s_check_parts) := ⟨rfl, rfl, rfl, by decide +kernel, rfl, by decide +kernel, by decide +kernel⟩
def S_check_parts : DSp := fun ds M R _ => ∃ t p o, ds = [.int t, .int p, .int o] ∧ 1 ≤ o ∧ R .non M
theorem ok_check_parts {P : Program} {w : World} {K : PySem.W.Frag} {mg : Str → Option Value} {base : Heap} {C f : Addr} {fd : FuncData} (T : Txt K mg) (F : FunD K "check_parts" "check_parts" (defArgs s_check_parts) (defBody s_check_parts) (defScope s_check_parts) [] [] f fd) (h_is_whole : CallOk P w K mg base C 1 "is_whole" 1 S_is_whole []) : FnOk P w K mg base CX0 2 f fd ["times", "plus", "over"] (spD ⟨K, C⟩ 3 S_check_parts) := by
  have nd := sc_check_parts.nd
  refine fn_ok 3 3 F sc_check_parts (fun cdv A outer s H E hr =>
      (qss_one (qs_if (QW.qt (qw_or (qt_not (qt_val (qc h_is_whole hr (by decide) (qa_cons (qv 0) qa_nil)))) (qw_or (qt_not (qt_val (qc h_is_whole hr (by decide) (qa_cons (qv 1) qa_nil)))) (qw_or (qt_not (qt_val (qc h_is_whole hr (by decide) (qa_cons (qv 2) qa_nil)))) (qw_or1 (qt_cmp c_lt (qv 2) qi))))))
        (qss_one qs_never)
        qss_nil))) ?_
  rintro ds M R - ⟨t, p, o, rfl, ho, hR⟩
  walk_at "w"
  refine ⟨_, rfl, rfl, ?_⟩
  walk_at "w"
  refine ⟨_, rfl, rfl, ?_⟩
  walk_at "w"
  refine ⟨_, rfl, rfl, ?_⟩
  walk_at "w"
  exact ⟨fun z => by omega, fun _ => fin_pure hR⟩
abbrev N_Line___init__ : List Str := ["self", "times", "plus", "over"]
theorem sc_Line___init__ : FnScope N_Line___init__ ["self", "times", "plus", "over"] (defScope s_Line___init__) := ⟨rfl, rfl, rfl, by decide +kernel, rfl, by decide +kernel, by decide +kernel⟩
theorem ok_Line___init__ {P : Program} {w : World} {K : PySem.W.Frag} {mg : Str → Option Value} {base : Heap} {C f : Addr} {fd : FuncData} (T : Txt K mg) (F : FunD K "__init__" "Line.__init__" (defArgs s_Line___init__) (defBody s_Line___init__) (defScope s_Line___init__) [] [] f fd) (h_check_parts : CallOk P w K mg base C 2 "check_parts" 3 S_check_parts []) (cl : Cls K C ∧ NoAttr K C "parts") : FnOk P w K mg base CX0 3 f fd ["self", "times", "plus", "over"] (spLn C) := by
  have nd := sc_Line___init__.nd
  obtain ⟨g, gd, gps, gds, gdv, m1, m2, m3, m4, m5, m6⟩ := h_check_parts.ex
  have e0 : gdv = [] := by cases m6; rfl
  subst e0
  refine F.ok sc_Line___init__ (fun vs H Q E h => by obtain ⟨x, dx, t, p, o, e, _⟩ := h; rw [e]; rfl) (fun cdv A outer s H vs Q E hr h => ?_)
  obtain ⟨x, dx, t, p, o, rfl, hx, ho, kk⟩ := h
  refine ⟨_, pss_cons (ps_expr (pe_call m3 hr (by rfl) m1 m2 m4 m5 pass0 (pa_cons (pv 1) (pa_cons (pv 2) (pa_cons (pv 3) pa_nil))))) (pss_one (ps_fld (pv 0) (pe_tup (pa_cons (pv 1) (pa_cons (pv 2) (pa_cons (pv 3) pa_nil)))) rfl)), ?_⟩
  refine ⟨_, rfl, _, rfl, _, rfl, [.int t, .int p, .int o], fun _ => none, fun d _ => d = .non, rfl, IsL.cons is_int (IsL.cons is_int (IsL.cons is_int IsL.nil)), fun _ _ e => (nomatch e), ⟨t, p, o, rfl, ho, rfl⟩, fun d M' y H1 o1 i1 e1 hd => ?_⟩
  have hx1 : H1 x = some (.ins C dx []) := (e1.st x _ rfl hx).1
  refine ⟨_, rfl, _, rfl, _, rfl, by show 3 ≤ sizeLine; decide, fun q hq => ?_⟩
  have nq : q ≠ x := fun z => by rw [z, hx1] at hq; cases hq
  have hq0 : H q = none := by
    cases z : H q with
    | none => rfl
    | some u => rw [(e1.st q u rfl z).1] at hq; cases hq
  refine ⟨_, rfl, x, C, dx, [], rfl, by rw [upd_ne nq.symm]; exact hx1, cl.1, cl.2, by decide, ?_⟩
  refine kk q _ (fun b u hb hu => ?_) hq0 nq upd_same (by rw [upd_ne nq, upd_same])
  have nb : b ≠ q := fun z => by rw [z, hq0] at hu; cases hu
  rw [upd_ne hb, upd_ne nb]
  exact (e1.st b u rfl hu).1
abbrev N_Line___neg__ : List Str := ["self"]
theorem sc_Line___neg__ : FnScope N_Line___neg__ ["self"] (defScope s_Line___neg__) := ⟨rfl, rfl, rfl, by decide +kernel, rfl, by decide +kernel, by decide +kernel⟩
def S_Line___neg__ : DSp := fun ds M R _ => ∃ t p o, ds = [.ln t p o] ∧ 1 ≤ o ∧ R (.ln (-t) (o - 1 - p) o) M
theorem ok_Line___neg__ {P : Program} {w : World} {K : PySem.W.Frag} {mg : Str → Option Value} {base : Heap} {C f : Addr} {fd : FuncData} (T : Txt K mg) (F : FunD K "__neg__" "Line.__neg__" (defArgs s_Line___neg__) (defBody s_Line___neg__) (defScope s_Line___neg__) [] [] f fd) (h_Line : LMk P w K mg base C 3) (hp_over : POk P w K mg base C 1 "over" S_Line_over) (hp_plus : POk P w K mg base C 1 "plus" S_Line_plus) (hp_times : POk P w K mg base C 1 "times" S_Line_times) : FnOk P w K mg base CX0 5 f fd ["self"] (spD ⟨K, C⟩ 1 S_Line___neg__) := by
  have nd := sc_Line___neg__.nd
  refine fn_ok 1 1 F sc_Line___neg__ (fun cdv A outer s H E hr =>
      (qss_one (qs_ret (q_line h_Line hr (by decide) (qa_cons (q_neg (q_prop hp_times hr (by decide) (qv 0))) (qa_cons (q_sub (q_sub (q_prop hp_over hr (by decide) (qv 0)) qi) (q_prop hp_plus hr (by decide) (qv 0))) (qa_cons (q_prop hp_over hr (by decide) (qv 0)) qa_nil))))))) ?_
  rintro ds M R - ⟨t, p, o, rfl, ho, hR⟩
  walk_at "w"
  refine ⟨_, _, _, rfl, ?_⟩
  walk_at "w"
  refine ⟨_, _, _, rfl, ?_⟩
  walk_at "w"
  refine ⟨_, _, _, rfl, ?_⟩
  walk_at "w"
  refine ⟨_, _, _, rfl, ?_⟩
  walk_at "w"
  exact ⟨ho, fin_pure hR⟩
abbrev N_slopes : List Str := ["line", "low", "high", "top", "bottom"]
theorem sc_slopes : FnScope N_slopes ["line", "low", "high"] (defScope s_slopes) := ⟨rfl, rfl, rfl, by decide +kernel, rfl, by decide +kernel, by decide +kernel⟩
def S_slopes : DSp := fun ds M R _ => ∃ (x : Tr) (l h : Int), ds = [trL x, .int l, .int h] ∧ DOk x l h ∧ Sm 898 x.2.1 ∧ l < h ∧ ∀ I : Iv, Slo x l h I → R (.tup [.tup [.int I.p1, .int I.q1], .tup [.int I.p2, .int I.q2]]) M
theorem ok_slopes {P : Program} {w : World} {K : PySem.W.Frag} {mg : Str → Option Value} {base : Heap} {C f : Addr} {fd : FuncData} (T : Txt K mg) (F : FunD K "slopes" "slopes" (defArgs s_slopes) (defBody s_slopes) (defScope s_slopes) [] [] f fd) (h_check_line : CallOk P w K mg base C 1 "check_line" 1 S_check_line []) (h_check_range : CallOk P w K mg base C 2 "check_range" 2 S_check_range []) (h_low_slope : CallOk P w K mg base C 4 "low_slope" 3 S_low_slope []) (hu___neg__ : UOk P w K mg base C 5 "__neg__" 1 S_Line___neg__) : FnOk P w K mg base CX0 6 f fd ["line", "low", "high"] (spD ⟨K, C⟩ 3 S_slopes) := by
  have nd := sc_slopes.nd
  refine fn_ok 5 3 F sc_slopes (fun cdv A outer s H E hr =>
      (qss_cons (qs_expr (qc h_check_line hr (by decide) (qa_cons (qv 0) qa_nil)))
      (qss_cons (qs_expr (qc h_check_range hr (by decide) (qa_cons (qv 1) (qa_cons (qv 2) qa_nil))))
      (qss_cons (qs_asg (qc h_low_slope hr (by decide) (qa_cons (q_negL hu___neg__ hr (by decide) (qv 0)) (qa_cons (qv 1) (qa_cons (qv 2) qa_nil)))) (qg_tup (n := 2) (qgs_cons (qg_name (i := 3) nd) (qgs_cons (qg_name (i := 4) nd) qgs_nil))))
      (qss_one (qs_ret (q_tup (qa_cons (qc h_low_slope hr (by decide) (qa_cons (qv 0) (qa_cons (qv 1) (qa_cons (qv 2) qa_nil)))) (qa_cons (q_tup (qa_cons (q_neg (qv 3)) (qa_cons (qv 4) qa_nil))) qa_nil))))))))) ?_
  rintro ds M R - ⟨x, l, h, rfl, d, sp, hl, hR⟩
  walk_at "w"
  refine ⟨x, rfl, ?_⟩
  walk_at "w"
  refine ⟨l, h, rfl, hl, ?_⟩
  simp only [trL]
  walk_at "w"
  refine ⟨_, _, _, rfl, d.o1, ?_⟩
  walk_at "w"
  refine ⟨negT x, l, h, rfl, d.ng sp, hl, fun p q H => ?_⟩
  walk_at "w"
  refine ⟨x, l, h, rfl, d, hl, fun p1 q1 L => ?_⟩
  walk_at "w"
  exact fin_pure (hR ⟨p1, q1, -p, q⟩ ⟨L, by show LowS _ l h (- -p) q; rw [Int.neg_neg]; exact H⟩)
abbrev N_less : List Str := ["one", "other"]
theorem sc_less : FnScope N_less ["one", "other"] (defScope s_less) := ⟨rfl, rfl, rfl, by decide +kernel, rfl, by decide +kernel, by decide +kernel⟩
def S_less : DSp := fun ds M R _ => ∃ a b c d : Int, ds = [.tup [.int a, .int b], .tup [.int c, .int d]] ∧ IntMulOk a d ∧ IntMulOk c b ∧ R (.bl (decide (a * d < c * b))) M
theorem ok_less {P : Program} {w : World} {K : PySem.W.Frag} {mg : Str → Option Value} {base : Heap} {C f : Addr} {fd : FuncData} (T : Txt K mg) (F : FunD K "less" "less" (defArgs s_less) (defBody s_less) (defScope s_less) [] [] f fd)  : FnOk P w K mg base CX0 1 f fd ["one", "other"] (spD ⟨K, C⟩ 2 S_less) := by
  have nd := sc_less.nd
  refine fn_ok 2 2 F sc_less (fun cdv A outer s H E hr =>
      (qss_one (qs_ret (q_cmp c_lt (q_mul (q_ixC 0 (qv 0)) (q_ixC 1 (qv 1))) (q_mul (q_ixC 0 (qv 1)) (q_ixC 1 (qv 0))))))) ?_
  rintro ds M R - ⟨a, b, c, d, rfl, h1, h2, hR⟩
  walk_at "w"
  exact ⟨h1, h2, fin_pure hR⟩
abbrev N_unfolded : List Str := ["wholes", "found", "top", "bottom", "whole"]
theorem sc_unfolded : FnScope N_unfolded ["wholes", "found"] (defScope s_unfolded) := ⟨rfl, rfl, rfl, by decide +kernel, rfl, by decide +kernel, by decide +kernel⟩
def S_unfolded : DSp := fun ds M R _ => ∃ (p : Addr) (ws : List Int) (r : Int × Int), ds = [.own p, .tup [.int r.1, .int r.2]] ∧ M p = some (.lst (ws.reverse.map .int)) ∧ UfOk ws r ∧ R (.tup [.int (unf ws r).1, .int (unf ws r).2]) M
theorem ok_unfolded {P : Program} {w : World} {K : PySem.W.Frag} {mg : Str → Option Value} {base : Heap} {C f : Addr} {fd : FuncData} (T : Txt K mg) (F : FunD K "unfolded" "unfolded" (defArgs s_unfolded) (defBody s_unfolded) (defScope s_unfolded) [] [] f fd)  : FnOk P w K mg base CX0 1 f fd ["wholes", "found"] (spD ⟨K, C⟩ 2 S_unfolded) := by
  have nd := sc_unfolded.nd
  refine fn_ok 5 2 F sc_unfolded (fun cdv A outer s H E hr =>
      (qss_cons (qs_asg (qv 1) (qg_tup (n := 2) (qgs_cons (qg_name (i := 2) nd) (qgs_cons (qg_name (i := 3) nd) qgs_nil))))
      (qss_cons (qs_for (qi_list (q_rev (qv 0))) (qg_name (i := 4) nd)
        (qss_one (qs_par (i := 2) (j := 3) nd (qa_cons (q_add (qv 3) (q_mul (qv 4) (qv 2))) (qa_cons (qv 2) qa_nil)))))
      (qss_one (qs_ret (q_tup (qa_cons (qv 2) (qa_cons (qv 3) qa_nil)))))))) ?_
  rintro ds M R - ⟨p, ws, r, rfl, hM, ok, hR⟩
  walk_at "w"
  refine vfor_list (ws.map .int) (fun F z => by
    walk_at "w"
    rw [hM]
    walk_at "w"
    rw [← List.map_reverse, List.reverse_reverse]
    exact z) (fun i γ M' => M' = M ∧ ∃ (r' : Int × Int) (y4 : Option D), γ = [some (.own p), some (.tup [.int r.1, .int r.2]), some (.int r'.1), some (.int r'.2), y4] ∧ UfOk (ws.drop i) r' ∧ unf (ws.drop i) r' = unf ws r) ⟨rfl, r, _, rfl, ok, rfl⟩ ?_ ?_
  · rintro i d γ' _ ⟨rfl, r', y4, rfl, ok', e⟩ hd
    rw [List.getElem?_map] at hd
    cases eq : ws[i]? with
    | none => rw [eq] at hd; cases hd
    | some w =>
      rw [eq] at hd
      cases hd
      have hi : i < ws.length := (List.getElem?_eq_some_iff.mp eq).1
      have ei : ws[i] = w := (List.getElem?_eq_some_iff.mp eq).2
      rw [List.drop_eq_getElem_cons hi, ei] at ok' e
      walk_at "w"
      exact ⟨ok'.1, (r'.2 + w * r'.1, r'.1), _, rfl, ok'.2, e⟩
  · rintro γ' _ ⟨rfl, r', y4, rfl, ok', e⟩
    rw [List.length_map, List.drop_length] at e
    walk_at "w"
    rw [← e] at hR
    exact fin_pure hR
abbrev N_simple_between : List Str := ["one", "other", "wholes", "whole", "low_top", "high_top", "found"]
theorem sc_simple_between : FnScope N_simple_between ["one", "other"] (defScope s_simple_between) := ⟨rfl, rfl, rfl, by decide +kernel, rfl, by decide +kernel, by decide +kernel⟩
def S_simple_between : DSp := fun ds M R _ => ∃ L : Lv, ds = [.tup [.int L.I.p1, .int L.I.q1], .tup [.int L.I.p2, .int L.I.q2]] ∧ LOk L ∧ ∀ u v, SB L.I u v → R (.tup [.int u, .int v]) M
theorem ok_simple_between {P : Program} {w : World} {K : PySem.W.Frag} {mg : Str → Option Value} {base : Heap} {C f : Addr} {fd : FuncData} (T : Txt K mg) (F : FunD K "simple_between" "simple_between" (defArgs s_simple_between) (defBody s_simple_between) (defScope s_simple_between) [] [] f fd) (h_less : CallOk P w K mg base C 1 "less" 2 S_less []) (h_unfolded : CallOk P w K mg base C 1 "unfolded" 2 S_unfolded []) : FnOk P w K mg base CX0 2 f fd ["one", "other"] (spD ⟨K, C⟩ 2 S_simple_between) := by
  have nd := sc_simple_between.nd
  refine fn_ok 7 2 F sc_simple_between (fun cdv A outer s H E hr =>
      (qss_cons (qs_set (i := 2) nd (q_lstO qa_nil))
      (qss_cons (qs_while (qt_val qb)
        (qss_cons (qs_set (i := 3) nd (q_div (q_ixC 0 (qv 0)) (q_ixC 1 (qv 0))))
        (qss_cons (qs_if (qt_val (qc h_less hr (by decide) (qa_cons (q_tup (qa_cons (q_add (qv 3) qi) (qa_cons qi qa_nil))) (qa_cons (qv 1) qa_nil))))
          (qss_one qs_break)
          qss_nil)
        (qss_cons (qs_expr (q_append (qv 2) (qv 3)))
        (qss_cons (qs_par (i := 4) (j := 5) nd (qa_cons (q_sub (q_ixC 0 (qv 0)) (q_mul (qv 3) (q_ixC 1 (qv 0)))) (qa_cons (q_sub (q_ixC 0 (qv 1)) (q_mul (qv 3) (q_ixC 1 (qv 1)))) qa_nil)))
        (qss_cons (qs_if (qt_cmp (c_eq hr) (qv 4) qi)
          (qss_cons (qs_set (i := 6) nd (q_tup (qa_cons qi (qa_cons (q_add (q_div (q_ixC 1 (qv 1)) (qv 5)) qi) qa_nil))))
          (qss_cons (qs_set (i := 3) nd (q_pop (qv 2)))
          (qss_cons (qs_set (i := 6) nd (q_tup (qa_cons (q_add (q_ixC 0 (qv 6)) (q_mul (qv 3) (q_ixC 1 (qv 6)))) (qa_cons (q_ixC 1 (qv 6)) qa_nil))))
          (qss_one (qs_ret (qc h_unfolded hr (by decide) (qa_cons (qv 2) (qa_cons (qv 6) qa_nil))))))))
          qss_nil)
        (qss_one (qs_par (i := 0) (j := 1) nd (qa_cons (q_tup (qa_cons (q_ixC 1 (qv 1)) (qa_cons (qv 5) qa_nil))) (qa_cons (q_tup (qa_cons (q_ixC 1 (qv 0)) (qa_cons (qv 4) qa_nil))) qa_nil))))))))))
      (qss_one (qs_ret (qc h_unfolded hr (by decide) (qa_cons (qv 2) (qa_cons (q_tup (qa_cons (q_add (qv 3) qi) (qa_cons qi qa_nil))) qa_nil)))))))) ?_
  rintro ds M R - ⟨L0, rfl, k0, hR⟩
  walk_at "w"
  intro p hp
  refine vWhile_of (fun m γ M' => ∃ ws L y3 y4 y5 y6, γ = [some (.tup [.int L.I.p1, .int L.I.q1]), some (.tup [.int L.I.p2, .int L.I.q2]), some (.own p), y3, y4, y5, y6] ∧ M' = mset M p (.lst (ws.reverse.map .int)) ∧ LP L0 ws L ∧ LOk L ∧ m = (L.I.q1 + L.I.q2).toNat) ⟨_, [], L0, _, _, _, _, rfl, rfl, .nil, k0, rfl⟩ ?_
  rintro m γ' _ ⟨ws, L, y3, y4, y5, y6, rfl, rfl, P, k, rfl⟩
  have q1 := k.ok.q1
  have q2 := k.ok.q2
  have c1 : ∀ i, CD i L.I.q1 := fun i => cd_ok (by omega) k.t1 (by decide)
  have sw : Sm 1003 L.I.w := k.s1.div (by omega)
  have sw1 : Sm 1004 (L.I.w + 1) := Sm.add sw ((show Sm 1 1 by decide).mono (by decide))
  walk_at "w"
  refine ⟨c1 _, ?_⟩
  refine ⟨L.I.w + 1, 1, L.I.p2, L.I.q2, rfl, mul_ok sw1 k.t2 (by decide), mul_ok (b := 1) k.s2 (by decide) (by decide), ?_⟩
  walk_at "w"
  have fl := k.ok.fl
  have h0 := k.ok.ht0
  refine ⟨fun c => ?_, fun c => ⟨?_, mul_ok sw k.t1 (by decide), mul_ok sw k.t2 (by decide), fun z => ?_, fun z => ?_⟩⟩
  · have s := sb_one k.ok (show (L.I.w + 1) * L.I.q2 < L.I.p2 by omega)
    exact ⟨p, ws, (L.I.w + 1, 1), rfl, mset_same, P.uok s, fin_drop hp (hR _ _ (P.sb s))⟩
  · rw [List.length_map, List.length_reverse]
    exact Nat.lt_of_le_of_lt P.len (by decide)
  · have s := sb_zero k.ok z
    have sht : Sm 1505 L.I.ht := Sm.sub (a := 1504) (k.s2.mono (by decide)) (sw.mul k.t2)
    refine ⟨cd_ok h0 sht (by decide), ?_⟩
    rw [List.length_append, List.length_singleton, Nat.add_sub_cancel, List.getElem?_append_right (Nat.le_refl _), Nat.sub_self, List.getElem?_cons_zero, List.dropLast_concat]
    walk_at "w"
    have sq : Sm 502 (L.I.q2 / L.I.ht + 1) := Sm.add (a := 501) (k.t2.div h0) ((show Sm 1 1 by decide).mono (by decide))
    exact ⟨mul_ok sw sq (by decide), p, ws, (1 + L.I.w * (L.I.q2 / L.I.ht + 1), L.I.q2 / L.I.ht + 1), rfl, mset_same, P.uok s, fin_drop hp (hR _ _ (P.sb s))⟩
  · have hl : 0 < L.I.lt := by
      have : L.I.lt ≠ 0 := z
      omega
    have hh : L.I.p2 ≤ (L.I.w + 1) * L.I.q2 := by omega
    have dn := k.down hl hh
    refine ⟨_, ?_, L.I.w :: ws, L.nx, _, _, _, _, rfl, ?_, .cons P k hl hh, dn.1, rfl⟩
    · have := dn.2.2.1
      have := dn.1.ok.q1
      have := dn.1.ok.q2
      omega
    · rw [List.reverse_cons, List.map_append]; rfl
abbrev N_highest : List Str := ["line", "low", "high", "slope", "weight", "value", "place"]
theorem sc_highest : FnScope N_highest ["line", "low", "high", "slope", "weight"] (defScope s_highest) := ⟨rfl, rfl, rfl, by decide +kernel, rfl, by decide +kernel, by decide +kernel⟩
def S_highest : DSp := fun ds M R _ => ∃ (x : Tr) (l h s w : Int), ds = [trL x, .int l, .int h, .int s, .int w] ∧ DOk x l h ∧ Sm 2900 s ∧ Sm 2900 w ∧ R (.int (maxI (gq x s w) l h)) M
theorem ok_highest {P : Program} {w : World} {K : PySem.W.Frag} {mg : Str → Option Value} {base : Heap} {C f : Addr} {fd : FuncData} (T : Txt K mg) (F : FunD K "highest" "highest" (defArgs s_highest) (defBody s_highest) (defScope s_highest) [] [] f fd) (h_greatest : CallOk P w K mg base C 2 "greatest" 6 S_greatest []) (hp_over : POk P w K mg base C 1 "over" S_Line_over) (hp_times : POk P w K mg base C 1 "times" S_Line_times) (hp_plus : POk P w K mg base C 1 "plus" S_Line_plus) : FnOk P w K mg base CX0 3 f fd ["line", "low", "high", "slope", "weight"] (spD ⟨K, C⟩ 5 S_highest) := by
  have nd := sc_highest.nd
  refine fn_ok 7 5 F sc_highest (fun cdv A outer s H E hr =>
      (qss_cons (qs_asg (qc h_greatest hr (by decide) (qa_cons (q_prop hp_times hr (by decide) (qv 0)) (qa_cons (q_add (q_mul (q_prop hp_times hr (by decide) (qv 0)) (qv 1)) (q_prop hp_plus hr (by decide) (qv 0))) (qa_cons (q_prop hp_over hr (by decide) (qv 0)) (qa_cons (q_sub (qv 2) (qv 1)) (qa_cons (qv 3) (qa_cons (qv 4) qa_nil))))))) (qg_tup (n := 2) (qgs_cons (qg_name (i := 5) nd) (qgs_cons (qg_name (i := 6) nd) qgs_nil))))
      (qss_one (qs_ret (q_add (qv 5) (q_mul (qv 3) (qv 1))))))) ?_
  rintro ds M R - ⟨x, l, h, s, w, rfl, d, ss, sw, hR⟩
  have hlh := d.lh
  simp only [trL]
  walk_at "w"
  refine ⟨_, _, _, rfl, ?_⟩
  walk_at "w"
  refine ⟨_, _, _, rfl, ?_⟩
  walk_at "w"
  refine ⟨mul_ok d.st d.sl (by decide), ?_⟩
  refine ⟨_, _, _, rfl, ?_⟩
  walk_at "w"
  refine ⟨_, _, _, rfl, ?_⟩
  walk_at "w"
  refine ⟨qOf x l h s w, rfl, ⟨by show 0 < x.2.2; have := d.o1; omega, by show 0 ≤ h - l; omega, d.st.mono (by decide), (Sm.add (a := 1000) (d.st.mul d.sl) (d.sp.mono (by decide))).mono (by decide), d.so.mono (by decide), (Sm.sub d.sh d.sl).mono (by decide), ss.mono (by decide), sw.mono (by decide)⟩, fun v y A => ?_⟩
  walk_at "w"
  refine ⟨mul_ok ss d.sl (by decide), ?_⟩
  rw [IsMax.eq hlh (high_of A)]
  exact fin_pure hR
abbrev N_simplest : List Str := ["line", "low", "high", "first", "second", "times", "over"]
theorem sc_simplest : FnScope N_simplest ["line", "low", "high"] (defScope s_simplest) := ⟨rfl, rfl, rfl, by decide +kernel, rfl, by decide +kernel, by decide +kernel⟩
def S_simplest : DSp := fun ds M R _ => ∃ (x : Tr) (l h : Int), ds = [trL x, .int l, .int h] ∧ DOk x l h ∧ Sm 898 x.2.1 ∧ l < h ∧ ∀ (I : Iv) (u v : Int), Slo x l h I → SB I u v → R (trL (u, loW x l h u v, v)) M
theorem ok_simplest {P : Program} {w : World} {K : PySem.W.Frag} {mg : Str → Option Value} {base : Heap} {C f : Addr} {fd : FuncData} (T : Txt K mg) (F : FunD K "simplest" "simplest" (defArgs s_simplest) (defBody s_simplest) (defScope s_simplest) [] [] f fd) (h_slopes : CallOk P w K mg base C 6 "slopes" 3 S_slopes []) (h_simple_between : CallOk P w K mg base C 2 "simple_between" 2 S_simple_between []) (h_Line : LMk P w K mg base C 3) (h_highest : CallOk P w K mg base C 3 "highest" 5 S_highest []) : FnOk P w K mg base CX0 7 f fd ["line", "low", "high"] (spD ⟨K, C⟩ 3 S_simplest) := by
  have nd := sc_simplest.nd
  refine fn_ok 7 3 F sc_simplest (fun cdv A outer s H E hr =>
      (qss_cons (qs_asg (qc h_slopes hr (by decide) (qa_cons (qv 0) (qa_cons (qv 1) (qa_cons (qv 2) qa_nil)))) (qg_tup (n := 2) (qgs_cons (qg_name (i := 3) nd) (qgs_cons (qg_name (i := 4) nd) qgs_nil))))
      (qss_cons (qs_asg (qc h_simple_between hr (by decide) (qa_cons (qv 3) (qa_cons (qv 4) qa_nil))) (qg_tup (n := 2) (qgs_cons (qg_name (i := 5) nd) (qgs_cons (qg_name (i := 6) nd) qgs_nil))))
      (qss_one (qs_ret (q_line h_Line hr (by decide) (qa_cons (qv 5) (qa_cons (qc h_highest hr (by decide) (qa_cons (qv 0) (qa_cons (qv 1) (qa_cons (qv 2) (qa_cons (q_neg (qv 5)) (qa_cons (qv 6) qa_nil)))))) (qa_cons (qv 6) qa_nil))))))))) ?_
  rintro ds M R - ⟨x, l, h, rfl, d, sp, hl, hR⟩
  walk_at "w"
  refine ⟨x, l, h, rfl, d, sp, hl, fun I sI => ?_⟩
  walk_at "w"
  have k := sI.lok d sp
  refine ⟨⟨I, x.1, x.2.2⟩, rfl, k, fun u v s => ?_⟩
  obtain ⟨su, sv⟩ := sb_sm k s
  walk_at "w"
  refine ⟨x, l, h, _, _, rfl, d, su.neg.mono (by decide), sv.mono (by decide), ?_⟩
  walk_at "w"
  exact ⟨s.mem.v1, fin_pure (hR I u v sI s)⟩
abbrev N_leaning : List Str := ["line", "low", "high", "plain", "zeros", "ones", "late"]
theorem sc_leaning : FnScope N_leaning ["line", "low", "high"] (defScope s_leaning) := ⟨rfl, rfl, rfl, by decide +kernel, rfl, by decide +kernel, by decide +kernel⟩
def TwoP (x : Tr) (l h s w : Int) (i : Nat) (acc : List D) : Prop := (i = 0 ∧ acc = []) ∨ (∃ n0, IsArg (gq x s w) l h false n0 ∧ i = 1 ∧ acc = [.int n0]) ∨ (∃ n0 n1, IsArg (gq x s w) l h false n0 ∧ IsArg (gq x s w) l h true n1 ∧ i = 2 ∧ acc = [.int n0, .int n1])
theorem TwoP.len {x : Tr} {l h s w : Int} {i : Nat} {acc : List D} (t : TwoP x l h s w i acc) : acc.length < sizeLine := by
  rcases t with ⟨_, rfl⟩ | ⟨n0, _, _, rfl⟩ | ⟨n0, n1, _, _, _, rfl⟩
  · exact (show 0 < sizeLine by decide)
  · exact (show 1 < sizeLine by decide)
  · exact (show 2 < sizeLine by decide)
def S_leaning : DSp := fun ds M R _ => ∃ (x : Tr) (l h : Int), ds = [trL x, .int l, .int h] ∧ DOk x l h ∧ Sm 898 x.2.1 ∧ l < h ∧ ∀ (I : Iv) (u v z0 z1 o0 o1 : Int), Slo x l h I → SB I u v → Lean x l h u v z0 z1 o0 o1 → R (.tup [trL (u, loW x l h u v, v), .lst [.int z0, .int z1], .lst [.int o0, .int o1]]) M
theorem ok_leaning {P : Program} {w : World} {K : PySem.W.Frag} {mg : Str → Option Value} {base : Heap} {C f : Addr} {fd : FuncData} (T : Txt K mg) (F : FunD K "leaning" "leaning" (defArgs s_leaning) (defBody s_leaning) (defScope s_leaning) [] [] f fd) (h_simplest : CallOk P w K mg base C 7 "simplest" 3 S_simplest []) (h_place_of : CallOk P w K mg base C 3 "place_of" 6 S_place_of []) (hp_over : POk P w K mg base C 1 "over" S_Line_over) (hp_times : POk P w K mg base C 1 "times" S_Line_times) : FnOk P w K mg base CX0 8 f fd ["line", "low", "high"] (spD ⟨K, C⟩ 3 S_leaning) := by
  have nd := sc_leaning.nd
  refine fn_ok 7 3 F sc_leaning (fun cdv A outer s H E hr =>
      (qss_cons (qs_set (i := 3) nd (qc h_simplest hr (by decide) (qa_cons (qv 0) (qa_cons (qv 1) (qa_cons (qv 2) qa_nil)))))
      (qss_cons (qs_setLc (i := 4) (own := [("late", 6)]) nd (qi_tup (q_tup (qa_cons qb (qa_cons qb qa_nil)))) (blkOk_by (own := [("late", 6)]) (N := N_leaning) (sc := defScope s_leaning) (by decide +kernel)) (fun _ _ _ _ _ => (qgw_name (i := 6) nd)) (fun _ _ _ _ _ => qts_nil) (fun _ _ _ _ _ => (qc h_place_of hr (by decide) (qa_cons (qv 0) (qa_cons (qv 1) (qa_cons (qv 2) (qa_cons (q_neg (q_prop hp_times hr (by decide) (qv 3))) (qa_cons (q_prop hp_over hr (by decide) (qv 3)) (qa_cons (qv 6) qa_nil)))))))) (sw_true rfl rfl rfl (by decide +kernel)))
      (qss_cons (qs_setLc (i := 5) (own := [("late", 6)]) nd (qi_tup (q_tup (qa_cons qb (qa_cons qb qa_nil)))) (blkOk_by (own := [("late", 6)]) (N := N_leaning) (sc := defScope s_leaning) (by decide +kernel)) (fun _ _ _ _ _ => (qgw_name (i := 6) nd)) (fun _ _ _ _ _ => qts_nil) (fun _ _ _ _ _ => (qc h_place_of hr (by decide) (qa_cons (qv 0) (qa_cons (qv 1) (qa_cons (qv 2) (qa_cons (q_prop hp_times hr (by decide) (qv 3)) (qa_cons (q_neg (q_prop hp_over hr (by decide) (qv 3))) (qa_cons (qv 6) qa_nil)))))))) (sw_true rfl rfl rfl (by decide +kernel)))
      (qss_one (qs_ret (q_tup (qa_cons (qv 3) (qa_cons (qv 4) (qa_cons (qv 5) qa_nil)))))))))) ?_
  rintro ds M R - ⟨x, l, h, rfl, d, sp, hl, hR⟩
  walk_at "w"
  refine ⟨x, l, h, rfl, d, sp, hl, fun I u v sI s => ?_⟩
  have k := sI.lok d sp
  obtain ⟨su, sv⟩ := sb_sm k s
  simp only [trL]
  walk_at "w"
  refine vlc_tup [.bl false, .bl true] (fun F z => by walk_at "w"; exact z) (TwoP x l h (-u) (v)) (.inl ⟨rfl, rfl⟩) ?_ ?_ ?_
  · exact fun i acc t => t.len
  · rintro i acc b p hp (⟨rfl, rfl⟩ | ⟨n0, N0, rfl, rfl⟩ | ⟨n0, n1, _, _, rfl, rfl⟩) hd
    · cases hd
      walk_at "w"
      try simp only [e_lt, e_lp, e_lo]
      walk_at "w"
      try simp only [e_lt, e_lp, e_lo]
      walk_at "w"
      refine ⟨x, l, h, _, _, false, rfl, d, su.neg.mono (by decide), sv.mono (by decide), fun n N => ?_⟩
      walk_at "w"
      exact ⟨M, rfl, rfl, .inr (.inl ⟨n, N, rfl, rfl⟩)⟩
    · cases hd
      walk_at "w"
      try simp only [e_lt, e_lp, e_lo]
      walk_at "w"
      try simp only [e_lt, e_lp, e_lo]
      walk_at "w"
      refine ⟨x, l, h, _, _, true, rfl, d, su.neg.mono (by decide), sv.mono (by decide), fun n N => ?_⟩
      walk_at "w"
      exact ⟨M, rfl, rfl, .inr (.inr ⟨n0, n, N0, N, rfl, rfl⟩)⟩
    · cases hd
  rintro acc (⟨e, _⟩ | ⟨n0, _, e, _⟩ | ⟨z0, z1, Z0, Z1, _, rfl⟩)
  · cases e
  · cases e
  walk_at "w"
  refine vlc_tup [.bl false, .bl true] (fun F z => by walk_at "w"; exact z) (TwoP x l h (u) (-v)) (.inl ⟨rfl, rfl⟩) ?_ ?_ ?_
  · exact fun i acc t => t.len
  · rintro i acc b p hp (⟨rfl, rfl⟩ | ⟨n0, N0, rfl, rfl⟩ | ⟨n0, n1, _, _, rfl, rfl⟩) hd
    · cases hd
      walk_at "w"
      try simp only [e_lt, e_lp, e_lo]
      walk_at "w"
      try simp only [e_lt, e_lp, e_lo]
      walk_at "w"
      refine ⟨x, l, h, _, _, false, rfl, d, su.mono (by decide), sv.neg.mono (by decide), fun n N => ?_⟩
      walk_at "w"
      exact ⟨M, rfl, rfl, .inr (.inl ⟨n, N, rfl, rfl⟩)⟩
    · cases hd
      walk_at "w"
      try simp only [e_lt, e_lp, e_lo]
      walk_at "w"
      try simp only [e_lt, e_lp, e_lo]
      walk_at "w"
      refine ⟨x, l, h, _, _, true, rfl, d, su.mono (by decide), sv.neg.mono (by decide), fun n N => ?_⟩
      walk_at "w"
      exact ⟨M, rfl, rfl, .inr (.inr ⟨n0, n, N0, N, rfl, rfl⟩)⟩
    · cases hd
  rintro acc (⟨e, _⟩ | ⟨n0, _, e, _⟩ | ⟨o0, o1, O0, O1, _, rfl⟩)
  · cases e
  · cases e
  walk_at "w"
  exact fin_pure (hR I u v z0 z1 o0 o1 sI s ⟨Z0, Z1, O0, O1⟩)
abbrev N_corners : List Str := ["pieces", "lowers", "uppers", "index", "line", "low", "high", "zeros", "ones", "plain", "number"]
theorem sc_corners : FnScope N_corners ["pieces"] (defScope s_corners) := ⟨rfl, rfl, rfl, by decide +kernel, rfl, by decide +kernel, by decide +kernel⟩
structure PcOk (p : Pc) : Prop where
  d : DOk p.1 p.2.1 p.2.2
  sp : Sm 898 p.1.2.1
def coF (x : Tr) (i : Nat) : D → D
  | .int n => coD (n, vl x n, i)
  | d => d
theorem coF_map (x : Tr) (i : Nat) (zs : List Int) : (((zs.map D.int).filter fun _ => true).map (coF x i)) = (zs.map fun n => (n, vl x n, i)).map coD := by
  rw [List.filter_eq_self.mpr (fun _ _ => rfl), List.map_map, List.map_map]
  rfl
theorem co_pure : ∀ L : List Co, pureL (L.map coD) = true
  | [] => rfl
  | e :: r => by
    show (pureD (coD e) && pureL (r.map coD)) = true
    rw [co_pure r]; rfl
theorem mem_two {M : Mem} {p q : Addr} {a b a' b' : MO} : mset (mset (mset (mset M p a) q b) p a') q b' = mset (mset M p a') q b' := by
  funext c
  by_cases h : c = q
  · subst h; rw [mset_same, mset_same]
  · rw [mset_ne h, mset_ne h]
    by_cases h2 : c = p
    · subst h2; rw [mset_same, mset_same]
    · rw [mset_ne h2, mset_ne h2, mset_ne h, mset_ne h2]
def S_corners : DSp := fun ds M R _ => ∃ P : List Pc, ds = [.lst (P.map pcD)] ∧ (∀ p ∈ P, PcOk p) ∧ P.length ≤ 1000 ∧ ∀ L U, CorN P P.length L U → R (.tup [.lst (L.map coD), .lst (U.map coD)]) M
theorem ok_corners {P : Program} {w : World} {K : PySem.W.Frag} {mg : Str → Option Value} {base : Heap} {C f : Addr} {fd : FuncData} (T : Txt K mg) (F : FunD K "corners" "corners" (defArgs s_corners) (defBody s_corners) (defScope s_corners) [] [] f fd) (h_leaning : CallOk P w K mg base C 8 "leaning" 3 S_leaning []) (h_callO : COk P w K mg base C 3 2 S_Line___call__) : FnOk P w K mg base CX0 9 f fd ["pieces"] (spD ⟨K, C⟩ 1 S_corners) := by
  have nd := sc_corners.nd
  refine fn_ok 11 1 F sc_corners (fun cdv A outer s H E hr =>
      (qss_cons (qs_par (i := 1) (j := 2) nd (qa_cons (q_lstO qa_nil) (qa_cons (q_lstO qa_nil) qa_nil)))
      (qss_cons (qs_for (qi_enum T.b_enumerate (qa_cons (qv 0) qa_nil)) (qg_tup (n := 2) (qgs_cons (qg_name (i := 3) nd) (qgs_cons (qg_tup (n := 3) (qgs_cons (qg_name (i := 4) nd) (qgs_cons (qg_name (i := 5) nd) (qgs_cons (qg_name (i := 6) nd) qgs_nil)))) qgs_nil)))
        (qss_cons (qs_par (i := 7) (j := 8) nd (qa_cons (q_lst (qa_cons (qv 5) qa_nil)) (qa_cons (q_lst (qa_cons (qv 5) qa_nil)) qa_nil)))
        (qss_cut (qs_if (qt_cmp c_lt (qv 5) (qv 6))
          (qss_one (qs_asg (qc h_leaning hr (by decide) (qa_cons (qv 4) (qa_cons (qv 5) (qa_cons (qv 6) qa_nil)))) (qg_tup (n := 3) (qgs_cons (qg_name (i := 9) nd) (qgs_cons (qg_name (i := 7) nd) (qgs_cons (qg_name (i := 8) nd) qgs_nil))))))
          qss_nil)
        (qss_cons (qs_augL (i := 1) nd (q_lc (own := [("number", 10)]) nd (qi_list (qv 7)) (blkOk_by (own := [("number", 10)]) (N := N_corners) (sc := defScope s_corners) (by decide +kernel)) (fun _ _ _ _ _ => (qgw_name (i := 10) nd)) (fun _ _ _ _ _ => qts_nil) (fun _ _ _ _ _ => (q_tup (qa_cons (qv 10) (qa_cons (q_callO h_callO hr (by decide) (qv 4) (qa_cons (qv 10) qa_nil)) (qa_cons (qv 3) qa_nil)))))))
        (qss_one (qs_augL (i := 2) nd (q_lc (own := [("number", 10)]) nd (qi_list (qv 8)) (blkOk_by (own := [("number", 10)]) (N := N_corners) (sc := defScope s_corners) (by decide +kernel)) (fun _ _ _ _ _ => (qgw_name (i := 10) nd)) (fun _ _ _ _ _ => qts_nil) (fun _ _ _ _ _ => (q_tup (qa_cons (qv 10) (qa_cons (q_callO h_callO hr (by decide) (qv 4) (qa_cons (qv 10) qa_nil)) (qa_cons (qv 3) qa_nil))))))))))))
      (qss_one (qs_ret (q_tup (qa_cons (qv 1) (qa_cons (qv 2) qa_nil)))))))) ?_
  rintro ds M R - ⟨P, rfl, ok, len, hR⟩
  walk_at "w"
  intro p hp q hq
  have hqp : q ≠ p := fun z => by rw [z, mset_same] at hq; cases hq
  have hq' : M q = none := by rw [mset_ne hqp] at hq; exact hq
  refine vfor_enumS (.lst (P.map pcD)) (P.map pcD) (fun F h => by walk_at "w"; exact h) rfl rfl (fun i γ M' => ∃ L U, M' = mset (mset M p (.lst (L.map coD))) q (.lst (U.map coD)) ∧ CorN P i L U ∧ ∃ y3 y4 y5 y6 y7 y8 y9 y10, γ = [some (.lst (P.map pcD)), some (.own p), some (.own q), y3, y4, y5, y6, y7, y8, y9, y10]) ⟨[], [], rfl, CorN.zero P, _, _, _, _, _, _, _, _, rfl⟩ (by rintro i γ' _ ⟨L, U, rfl, _⟩; rfl) ?_ ?_
  · rintro i d γ' M1 ⟨L, U, hM1, C, y3, y4, y5, y6, y7, y8, y9, y10, rfl⟩ hd
    rw [List.getElem?_map] at hd
    obtain ⟨⟨x, l, h⟩, hp', rfl⟩ := Option.map_eq_some_iff.mp hd
    have k := ok _ (List.mem_of_getElem? hp')
    have hi : i < P.length := by
      rcases Nat.lt_or_ge i P.length with z | z
      · exact z
      · rw [List.getElem?_eq_none z] at hp'; cases hp'
    have d := k.d
    have lh := d.lh
    have x1 := d.o1
    simp only at d lh x1
    simp only [pcD]
    walk_at "w"
    refine ⟨fun γ M' => M' = M1 ∧ ∃ zs os y9 y10, γ = [some (.lst (P.map pcD)), some (.own p), some (.own q), some (.int i), some (trL x), some (.int l), some (.int h), some (.lst (zs.map D.int)), some (.lst (os.map D.int)), y9, y10] ∧ Bnd x l h zs os ∧ zs.length ≤ 2 ∧ os.length ≤ 2, ?_, ?_⟩
    · walk_at "w"
      refine ⟨fun c => ⟨x, l, h, rfl, d, k.sp, c, fun I u v z0 z1 o0 o1 sI s Ln => ?_⟩, fun c => ?_⟩
      · walk_at "w"
        exact ⟨[z0, z1], [o0, o1], _, _, rfl, bnd_lean x1 c sI s Ln, by simp, by simp⟩
      · obtain rfl : l = h := by omega
        exact ⟨[l], [l], _, _, rfl, bnd_one x l, by simp, by simp⟩
    rintro γ' M2 ⟨e0, zs, os, z9', z10', rfl, B, lz, lo⟩
    rw [e0]
    have hc : ∀ n, l ≤ n → n ≤ h → IntMulOk x.1 n ∧ CD (x.1 * n + x.2.1) x.2.2 := fun n n1 n2 => ⟨mul_ok d.st (sm_between d.sl d.sh n1 n2) (by decide), cd_ok (by omega) d.so (by decide)⟩
    have C2 := C.step hp' B lz lo
    have eL : M1 p = some (.lst (L.map coD)) := by rw [hM1, mset_ne (Ne.symm hqp), mset_same]
    have z2 : 2 < sizeLine := by decide
    have z9 : 2002 < sizeLine := by decide
    have ln := C.ln
    have un := C.un
    have zr := B.zr
    have orr := B.or'
    walk_at "w"
    refine mf_list (fun _ => true) (coF x i) (zs.map D.int) (fun F z => by walk_at "w"; exact z) (by rw [List.length_map]; omega) (fun d hd _ => by obtain ⟨n, _, rfl⟩ := List.mem_map.mp hd; rfl) ?_ ?_
    · intro j d' pp acc P1 Q hd hpp hP hQ
      obtain ⟨n, hn, rfl⟩ := List.mem_map.mp (List.mem_of_getElem? hd)
      obtain ⟨c1, c2⟩ := hc n (zr n hn).1 (zr n hn).2
      simp only [trL]
      walk_at "w"
      refine ⟨_, _, _, _, rfl, c1, c2, ?_⟩
      walk_at "w"
      exact hP rfl
    rw [coF_map]
    simp only [eL]
    refine ⟨co_pure _, by simp only [List.length_map]; omega, ?_⟩
    have eU : mset M1 p (.lst (L.map coD ++ (zs.map fun n => (n, vl x n, i)).map coD)) q = some (.lst (U.map coD)) := by rw [mset_ne hqp, hM1, mset_same]
    refine mf_list (fun _ => true) (coF x i) (os.map D.int) (fun F z => by walk_at "w"; exact z) (by rw [List.length_map]; omega) (fun d hd _ => by obtain ⟨n, _, rfl⟩ := List.mem_map.mp hd; rfl) ?_ ?_
    · intro j d' pp acc P1 Q hd hpp hP hQ
      obtain ⟨n, hn, rfl⟩ := List.mem_map.mp (List.mem_of_getElem? hd)
      obtain ⟨c1, c2⟩ := hc n (orr n hn).1 (orr n hn).2
      simp only [trL]
      walk_at "w"
      refine ⟨_, _, _, _, rfl, c1, c2, ?_⟩
      walk_at "w"
      exact hP rfl
    rw [coF_map]
    simp only [eU]
    refine ⟨co_pure _, by simp only [List.length_map]; omega, ?_⟩
    refine ⟨_, _, ?_, C2, _, _, _, _, _, _, _, _, rfl⟩
    rw [hM1, mem_two, List.map_append, List.map_append]
  · rintro γ' _ ⟨L, U, rfl, C, y3, y4, y5, y6, y7, y8, y9, y10, rfl⟩
    walk_at "w"
    rw [List.length_map] at C
    exact fin_frz2 hp hq' (Ne.symm hqp) (hR L U C)
abbrev N_bars_of : List Str := ["pieces", "lowers", "uppers", "first", "second", "never", "number", "value", "index", "other", "its", "place", "bar", "end"]
theorem sc_bars_of : FnScope N_bars_of ["pieces"] (defScope s_bars_of) := ⟨rfl, rfl, rfl, by decide +kernel, rfl, by decide +kernel, by decide +kernel⟩
structure EnOk (e : Co) : Prop where
  n : Sm 500 e.1
  f : Sm 1001 e.2.1
theorem corn_sm {P : List Pc} {L U : List Co} (C : CorN P P.length L U) (ok : ∀ p ∈ P, PcOk p) : (∀ e ∈ L, EnOk e) ∧ ∀ e ∈ U, EnOk e := by
  refine ⟨fun e he => ?_, fun e he => ?_⟩
  · obtain ⟨_, p, hp, h1, h2, h3⟩ := C.lm e he
    have k := (ok p (List.mem_of_getElem? hp)).d
    exact ⟨sm_between k.sl k.sh h1 h2, by rw [h3]; exact k.val h1 h2⟩
  · obtain ⟨_, p, hp, h1, h2, h3⟩ := C.um e he
    have k := (ok p (List.mem_of_getElem? hp)).d
    exact ⟨sm_between k.sl k.sh h1 h2, by rw [h3]; exact k.val h1 h2⟩
abbrev Mm (L U : List Co) : Co → Co → Prop := fun e c => e ∈ L ∧ c ∈ U
theorem fr_sm {a b : Int} {i j : Nat} (b1 : 1 ≤ b) (sa : Sm i a) (sb : Sm j b) : Sm i (fr a b).1 ∧ Sm j (fr a b).2 := ⟨sa.div (gcdI_pos b1), sb.div (gcdI_pos b1)⟩
theorem seen_mem {L U : List Co} {i j : Nat} {e c : Co} (h : Seen L U i j e c) : e ∈ L ∧ c ∈ U := by
  rcases h with ⟨a, _, q, m⟩ | ⟨q, b, _, z⟩
  · exact ⟨List.mem_of_getElem? q, m⟩
  · exact ⟨List.mem_of_getElem? q, List.mem_of_getElem? z⟩
theorem bars_pure (f s : Option (Int × Int × Co × Co)) (n : Option (Co × Co)) : pureD (.tup [bfD f, bfD s, nvD n]) = true := by
  rcases f with _ | ⟨p, q, e, c⟩ <;> rcases s with _ | ⟨p2, q2, e2, c2⟩ <;> rcases n with _ | ⟨a, b⟩ <;> rfl
theorem fst_sm {e c : Co} (a : EnOk e) (b : EnOk c) (l : c.1 < e.1) : Sm 1003 (fr (e.2.1 - c.2.1 - 1) (e.1 - c.1)).1 ∧ Sm 501 (fr (e.2.1 - c.2.1 - 1) (e.1 - c.1)).2 :=
  fr_sm (by omega) (Sm.sub (a := 1002) (Sm.sub a.f b.f) ((show Sm 1 1 by decide).mono (by decide))) (Sm.sub a.n b.n)
theorem snd_sm {e c : Co} (a : EnOk e) (b : EnOk c) (l : e.1 < c.1) : Sm 1003 (fr (c.2.1 + 1 - e.2.1) (c.1 - e.1)).1 ∧ Sm 501 (fr (c.2.1 + 1 - e.2.1) (c.1 - e.1)).2 :=
  fr_sm (by omega) (Sm.sub (a := 1002) (Sm.add (a := 1001) b.f ((show Sm 1 1 by decide).mono (by decide))) (a.f.mono (by decide))) (Sm.sub b.n a.n)
def S_bars_of : DSp := fun ds M R _ => ∃ P : List Pc, ds = [.lst (P.map pcD)] ∧ (∀ p ∈ P, PcOk p) ∧ P.length ≤ 1000 ∧ ∀ L U f s n, CorN P P.length L U → Fst1 (Mm L U) f → Snd1 (Mm L U) s → Nev1 (Mm L U) n → R (.tup [bfD f, bfD s, nvD n]) M
theorem ok_bars_of {P : Program} {w : World} {K : PySem.W.Frag} {mg : Str → Option Value} {base : Heap} {C f : Addr} {fd : FuncData} (T : Txt K mg) (F : FunD K "bars_of" "bars_of" (defArgs s_bars_of) (defBody s_bars_of) (defScope s_bars_of) [] [] f fd) (h_corners : CallOk P w K mg base C 9 "corners" 1 S_corners []) (h_fraction : CallOk P w K mg base C 2 "fraction" 2 S_fraction []) (h_less : CallOk P w K mg base C 1 "less" 2 S_less []) : FnOk P w K mg base CX0 10 f fd ["pieces"] (spD ⟨K, C⟩ 1 S_bars_of) := by
  have nd := sc_bars_of.nd
  refine fn_ok 14 1 F sc_bars_of (fun cdv A outer s H E hr =>
      (qss_cons (qs_asg (qc h_corners hr (by decide) (qa_cons (qv 0) qa_nil)) (qg_tup (n := 2) (qgs_cons (qg_name (i := 1) nd) (qgs_cons (qg_name (i := 2) nd) qgs_nil))))
      (qss_cons (qs_asg (q_tup (qa_cons qn (qa_cons qn (qa_cons qn qa_nil)))) (qg_tup (n := 3) (qgs_cons (qg_name (i := 3) nd) (qgs_cons (qg_name (i := 4) nd) (qgs_cons (qg_name (i := 5) nd) qgs_nil)))))
      (qss_cons (qs_for (qi_list (qv 1)) (qg_tup (n := 3) (qgs_cons (qg_name (i := 6) nd) (qgs_cons (qg_name (i := 7) nd) (qgs_cons (qg_name (i := 8) nd) qgs_nil))))
        (qss_one (qs_for (qi_list (qv 2)) (qg_tup (n := 3) (qgs_cons (qg_name (i := 9) nd) (qgs_cons (qg_name (i := 10) nd) (qgs_cons (qg_name (i := 11) nd) qgs_nil))))
          (qss_cons (qs_set (i := 12) nd (q_tup (qa_cons (qv 9) (qa_cons (qv 11) (qa_cons (qv 6) (qa_cons (qv 8) qa_nil))))))
          (qss_cut (qs_if (QW.qt (qw_and (qt_cmp (c_eq hr) (qv 6) (qv 9)) (qw_and1 (qt_cmp c_gt (qv 7) (qv 10)))))
            (qss_one (qs_set (i := 5) nd (qv 12)))
            qss_nil)
          (qss_cut (qs_if (qt_cmp c_gt (qv 6) (qv 9))
            (qss_cons (qs_set (i := 13) nd (qc h_fraction hr (by decide) (qa_cons (q_sub (q_sub (qv 7) (qv 10)) qi) (qa_cons (q_sub (qv 6) (qv 9)) qa_nil))))
            (qss_one (qs_if (QW.qt (qw_or (qt_isN (qv 3)) (qw_or1 (qt_val (qc h_less hr (by decide) (qa_cons (q_ixC 0 (qv 3)) (qa_cons (qv 13) qa_nil)))))))
              (qss_one (qs_set (i := 3) nd (q_tup (qa_cons (qv 13) (qa_cons (qv 12) qa_nil)))))
              qss_nil)))
            qss_nil)
          (qss_one (qs_if (qt_cmp c_lt (qv 6) (qv 9))
            (qss_cons (qs_set (i := 13) nd (qc h_fraction hr (by decide) (qa_cons (q_sub (q_add (qv 10) qi) (qv 7)) (qa_cons (q_sub (qv 9) (qv 6)) qa_nil))))
            (qss_one (qs_if (QW.qt (qw_or (qt_isN (qv 4)) (qw_or1 (qt_val (qc h_less hr (by decide) (qa_cons (qv 13) (qa_cons (q_ixC 0 (qv 4)) qa_nil)))))))
              (qss_one (qs_set (i := 4) nd (q_tup (qa_cons (qv 13) (qa_cons (qv 12) qa_nil)))))
              qss_nil)))
            qss_nil))))))))
      (qss_one (qs_ret (q_tup (qa_cons (qv 3) (qa_cons (qv 4) (qa_cons (qv 5) qa_nil)))))))))) ?_
  rintro ds M R - ⟨P, rfl, ok, len, hR⟩
  walk_at "w"
  refine ⟨P, rfl, ok, len, fun L U C => ?_⟩
  obtain ⟨lo, uo⟩ := corn_sm C ok
  walk_at "w"
  refine vfor_list (L.map coD) (fun F h => by walk_at "w"; exact h) (fun i γ M' => M' = M ∧ ∃ f s n y6 y7 y8 y9 y10 y11 y12 y13, γ = [some (.lst (P.map pcD)), some (.lst (L.map coD)), some (.lst (U.map coD)), some (bfD f), some (bfD s), some (nvD n), y6, y7, y8, y9, y10, y11, y12, y13] ∧ Fst1 (Seen L U i 0) f ∧ Snd1 (Seen L U i 0) s ∧ Nev1 (Seen L U i 0) n) ⟨rfl, none, none, none, _, _, _, _, _, _, _, _, rfl, fun e c t => absurd t (seen_zero e c), fun e c t => absurd t (seen_zero e c), fun e c t => absurd t (seen_zero e c)⟩ ?_ ?_
  · rintro i d γ' M1 ⟨hM, f, s, n, y6, y7, y8, y9, y10, y11, y12, y13, rfl, Hf, Hs, Hn⟩ hd
    rw [List.getElem?_map] at hd
    obtain ⟨e, he, rfl⟩ := Option.map_eq_some_iff.mp hd
    have e1 := lo e (List.mem_of_getElem? he)
    simp only [coD]
    walk_at "w"
    refine vfor_list (U.map coD) (fun F h => by walk_at "w"; exact h) (fun j γ M' => M' = M ∧ ∃ f s n y9 y10 y11 y12 y13, γ = [some (.lst (P.map pcD)), some (.lst (L.map coD)), some (.lst (U.map coD)), some (bfD f), some (bfD s), some (nvD n), some (.int e.1), some (.int e.2.1), some (.int e.2.2), y9, y10, y11, y12, y13] ∧ Fst1 (Seen L U i j) f ∧ Snd1 (Seen L U i j) s ∧ Nev1 (Seen L U i j) n) ⟨hM, f, s, n, _, _, _, _, _, rfl, Hf, Hs, Hn⟩ ?_ ?_
    · rintro j d γ' M2 ⟨hM2, f, s, n, y9, y10, y11, y12, y13, rfl, Hf, Hs, Hn⟩ hd2
      rw [List.getElem?_map] at hd2
      obtain ⟨c, hc, rfl⟩ := Option.map_eq_some_iff.mp hd2
      have c1 := uo c (List.mem_of_getElem? hc)
      have hT := seen_step he hc
      simp only [coD]
      walk_at "w"
      refine ⟨fun γ M' => M' = M ∧ ∃ n y13, γ = [some (.lst (P.map pcD)), some (.lst (L.map coD)), some (.lst (U.map coD)), some (bfD f), some (bfD s), some (nvD n), some (.int e.1), some (.int e.2.1), some (.int e.2.2), some (.int c.1), some (.int c.2.1), some (.int c.2.2), some (barD e c), y13] ∧ Nev1 (Seen L U i (j + 1)) n, ?_, ?_⟩
      · walk_at "w"
        exact ⟨fun t => ⟨fun z => ⟨hM2, some (e, c), _, rfl, Nev1.new hT t (by omega)⟩, fun z => ⟨hM2, n, _, rfl, Hn.skip hT (fun _ => by omega)⟩⟩, fun t => ⟨hM2, n, _, rfl, Hn.skip hT (fun z => absurd z t)⟩⟩
      rintro γ' M3 ⟨hM3, n', y13', rfl, Hn'⟩
      walk_at "w"
      refine ⟨fun γ M' => M' = M ∧ ∃ f y13, γ = [some (.lst (P.map pcD)), some (.lst (L.map coD)), some (.lst (U.map coD)), some (bfD f), some (bfD s), some (nvD n'), some (.int e.1), some (.int e.2.1), some (.int e.2.2), some (.int c.1), some (.int c.2.1), some (.int c.2.2), some (barD e c), y13] ∧ Fst1 (Seen L U i (j + 1)) f, ?_, ?_⟩
      · walk_at "w"
        refine ⟨fun t => ?_, fun t => ⟨hM3, f, _, rfl, Hf.skip hT (by omega)⟩⟩
        refine ⟨_, _, rfl, by omega, (Sm.sub e1.n c1.n).mono (by decide), ?_⟩
        obtain ⟨s1, s2⟩ := fst_sm e1 c1 t
        rcases f with _ | ⟨p, q, e', c'⟩
        · simp only [bfD]
          walk_at "w"
          exact ⟨hM3, _, _, rfl, Hf.new hT t (fun _ _ _ _ z => by cases z)⟩
        · obtain ⟨m1, m2⟩ := seen_mem Hf.1
          obtain ⟨t1, t2⟩ := fst_sm (lo _ m1) (uo _ m2) Hf.2.1
          rw [← Hf.2.2.1] at t1 t2
          simp only [bfD]
          walk_at "w"
          refine ⟨_, _, _, _, rfl, mul_ok t1 s2 (by decide), mul_ok s1 t2 (by decide), ?_⟩
          walk_at "w"
          exact ⟨fun z => ⟨hM3, _, _, rfl, Hf.new hT t (fun _ _ _ _ y => by cases y; exact z)⟩, fun z => ⟨hM3, some (p, q, e', c'), _, rfl, Hf.keep hT t (by omega)⟩⟩
      rintro γ' M4 ⟨hM4, f', y13'', rfl, Hf'⟩
      walk_at "w"
      refine ⟨fun t => ?_, fun t => ⟨hM4, f', s, n', _, _, _, _, _, rfl, Hf', Hs.skip hT (by omega), Hn'⟩⟩
      refine ⟨_, _, rfl, by omega, (Sm.sub c1.n e1.n).mono (by decide), ?_⟩
      obtain ⟨s1, s2⟩ := snd_sm e1 c1 t
      rcases s with _ | ⟨p, q, e', c'⟩
      · simp only [bfD]
        walk_at "w"
        exact ⟨hM4, f', some (_, _, e, c), n', _, _, _, _, _, rfl, Hf', Hs.new hT t (fun _ _ _ _ z => by cases z), Hn'⟩
      · obtain ⟨m1, m2⟩ := seen_mem Hs.1
        obtain ⟨t1, t2⟩ := snd_sm (lo _ m1) (uo _ m2) Hs.2.1
        rw [← Hs.2.2.1] at t1 t2
        simp only [bfD]
        walk_at "w"
        refine ⟨_, _, _, _, rfl, mul_ok s1 t2 (by decide), mul_ok t1 s2 (by decide), ?_⟩
        walk_at "w"
        exact ⟨fun z => ⟨hM4, f', some (_, _, e, c), n', _, _, _, _, _, rfl, Hf', Hs.new hT t (fun _ _ _ _ y => by cases y; exact z), Hn'⟩, fun z => ⟨hM4, f', some (p, q, e', c'), n', _, _, _, _, _, rfl, Hf', Hs.keep hT t (by omega), Hn'⟩⟩
    · rintro γ' M2 ⟨hM2, f, s, n, y9, y10, y11, y12, y13, rfl, Hf, Hs, Hn⟩
      rw [List.length_map] at Hf Hs Hn
      have eT : Seen L U i U.length = Seen L U (i + 1) 0 := funext fun e => funext fun c => propext (seen_row e c)
      rw [eT] at Hf Hs Hn
      exact ⟨hM2, f, s, n, _, _, _, _, _, _, _, _, rfl, Hf, Hs, Hn⟩
  · rintro γ' _ ⟨rfl, f, s, n, y6, y7, y8, y9, y10, y11, y12, y13, rfl, Hf, Hs, Hn⟩
    rw [List.length_map] at Hf Hs Hn
    have eT : Seen L U L.length 0 = Mm L U := funext fun e => funext fun c => propext (seen_all e c)
    rw [eT] at Hf Hs Hn
    walk_at "w"
    exact fin_pure (hR L U f s n C Hf Hs Hn) (bars_pure f s n)
abbrev N_pieces_slopes : List Str := ["pieces", "first", "second", "never"]
theorem sc_pieces_slopes : FnScope N_pieces_slopes ["pieces"] (defScope s_pieces_slopes) := ⟨rfl, rfl, rfl, by decide +kernel, rfl, by decide +kernel, by decide +kernel⟩
structure IvSz (I : Iv) : Prop where
  ok : IOk I
  c1 : gcdI I.p1 I.q1 = 1
  c2 : gcdI I.p2 I.q2 = 1
  s1 : Sm 1003 I.p1
  s2 : Sm 1003 I.p2
  t1 : Sm 501 I.q1
  t2 : Sm 501 I.q2
theorem inI_lt {p1 q1 p2 q2 u v : Int} (q1' : 1 ≤ q1) (q2' : 1 ≤ q2) (h : InI ⟨p1, q1, p2, q2⟩ u v) : p1 * q2 < p2 * q1 := by
  have a : p1 * v < u * q1 := h.lo
  have b : u * q2 < p2 * v := h.hi
  have v1 := h.v1
  have m1 := Int.mul_lt_mul_of_pos_right a (show 0 < q2 by omega)
  have m2 := Int.mul_lt_mul_of_pos_right b (show 0 < q1 by omega)
  have : p1 * q2 * v < p2 * q1 * v := by grind
  exact Int.lt_of_mul_lt_mul_right this (by omega)
def S_pieces_slopes : DSp := fun ds M R _ => ∃ P : List Pc, ds = [.lst (P.map pcD)] ∧ (∀ p ∈ P, PcOk p) ∧ P ≠ [] ∧ P.length ≤ 12 ∧
  ((∀ u v, 1 ≤ v → ¬ SlP P u v) → R .non M) ∧ ((∀ u v, 1 ≤ v → SlP P u v) → R (.tup [.non, .non]) M) ∧ ∀ I, IvSz I → (∀ u v, 1 ≤ v → (SlP P u v ↔ InI I u v)) → R (.tup [.tup [.int I.p1, .int I.q1], .tup [.int I.p2, .int I.q2]]) M
theorem ok_pieces_slopes {P : Program} {w : World} {K : PySem.W.Frag} {mg : Str → Option Value} {base : Heap} {C f : Addr} {fd : FuncData} (T : Txt K mg) (F : FunD K "pieces_slopes" "pieces_slopes" (defArgs s_pieces_slopes) (defBody s_pieces_slopes) (defScope s_pieces_slopes) [] [] f fd) (h_check_pieces : CallOk P w K mg base C 3 "check_pieces" 1 S_check_pieces []) (h_bars_of : CallOk P w K mg base C 10 "bars_of" 1 S_bars_of []) (h_less : CallOk P w K mg base C 1 "less" 2 S_less []) : FnOk P w K mg base CX0 11 f fd ["pieces"] (spD ⟨K, C⟩ 1 S_pieces_slopes) := by
  have nd := sc_pieces_slopes.nd
  refine fn_ok 4 1 F sc_pieces_slopes (fun cdv A outer s H E hr =>
      (qss_cons (qs_expr (qc h_check_pieces hr (by decide) (qa_cons (qv 0) qa_nil)))
      (qss_cons (qs_asg (qc h_bars_of hr (by decide) (qa_cons (qv 0) qa_nil)) (qg_tup (n := 3) (qgs_cons (qg_name (i := 1) nd) (qgs_cons (qg_name (i := 2) nd) (qgs_cons (qg_name (i := 3) nd) qgs_nil)))))
      (qss_cons (qs_if (qt_notN (qv 3))
        (qss_one (qs_ret qn))
        qss_nil)
      (qss_cons (qs_if (qt_isN (qv 1))
        (qss_one (qs_ret (q_tup (qa_cons qn (qa_cons qn qa_nil)))))
        qss_nil)
      (qss_cons (qs_if (qt_not (qt_val (qc h_less hr (by decide) (qa_cons (q_ixC 0 (qv 1)) (qa_cons (q_ixC 0 (qv 2)) qa_nil)))))
        (qss_one (qs_ret qn))
        qss_nil)
      (qss_one (qs_ret (q_tup (qa_cons (q_ixC 0 (qv 1)) (qa_cons (q_ixC 0 (qv 2)) qa_nil))))))))))) ?_
  rintro ds M R - ⟨P, rfl, ok, ne, len, h0, h1, h2⟩
  walk_at "w"
  refine ⟨P, rfl, ne, len, fun p hp => (ok p hp).d.lh, ?_⟩
  walk_at "w"
  refine ⟨P, rfl, ok, by omega, fun L U f s n C Hf Hs Hn => ?_⟩
  obtain ⟨lo, uo⟩ := corn_sm C ok
  rcases n with _ | ⟨a, b⟩
  · rcases f with _ | ⟨p, q, e, c⟩
    · simp only [bfD, nvD]
      walk_at "w"
      exact fin_pure (h1 fun u v v1 => C.all ne Hn Hf v1)
    · rcases s with _ | ⟨p2, q2, e2, c2⟩
      · exact absurd Hs (C.snd Hf)
      obtain ⟨t1, t2⟩ := fst_sm (lo _ Hf.1.1) (uo _ Hf.1.2) Hf.2.1
      obtain ⟨t3, t4⟩ := snd_sm (lo _ Hs.1.1) (uo _ Hs.1.2) Hs.2.1
      have l1 := Hf.2.1
      have l2 := Hs.2.1
      obtain ⟨_, _, _, _, Q1, g1⟩ := fr_ok (p := e.2.1 - c.2.1 - 1) (q := e.1 - c.1) (by omega)
      obtain ⟨_, _, _, _, Q2, g2⟩ := fr_ok (p := c2.2.1 + 1 - e2.2.1) (q := c2.1 - e2.1) (by omega)
      rw [← Hf.2.2.1] at t1 t2 Q1 g1
      rw [← Hs.2.2.1] at t3 t4 Q2 g2
      simp only [bfD, nvD]
      walk_at "w"
      refine ⟨_, _, _, _, rfl, mul_ok t1 t4 (by decide), mul_ok t3 t2 (by decide), ?_⟩
      walk_at "w"
      refine ⟨fun z => fin_pure (h0 fun u v v1 sl => z ?_), fun z => fin_pure (h2 ⟨p, q, p2, q2⟩ ⟨⟨Q1, Q2, z⟩, g1, g2, t1, t3, t2, t4⟩ fun u v v1 => C.iv ne Hn Hf Hs v1)⟩
      exact inI_lt Q1 Q2 ((C.iv ne Hn Hf Hs v1).mp sl)
  · simp only [nvD, barD]
    walk_at "w"
    exact fin_pure (h0 fun u v v1 => C.never ne Hn v1)
def BadPs (M : Mem) (d : D) : Prop := (∃ p ds, d = .own p ∧ M p = some (.lst ds) ∧ ds.length < 1000 ∧ (∀ e ∈ ds, ElOk e) ∧ (ds = [] ∨ 12 < ds.length ∨ ∃ e ∈ ds, pieceB e = false)) ∨ (tyL d = true ∧ pureD d = true ∧ ∀ l, d ≠ .lst l)
theorem BadPs.fld {M : Mem} {d : D} (h : BadPs M d) : FldOk M d := by
  rcases h with ⟨p, ds, rfl, hp, _⟩ | ⟨_, h, _⟩
  · exact .inr ⟨p, rfl, by rw [hp]; rfl⟩
  · exact .inl h
def Sx_check_pieces : DSx := fun ds M X => ∃ d, ds = [d] ∧ BadPs M d ∧ X ⟨"InvalidList", d⟩ M
theorem okx_check_pieces {P : Program} {w : World} {K : PySem.W.Frag} {mg : Str → Option Value} {base : Heap} {C f : Addr} {fd : FuncData} (T : Txt K mg) (F : FunD K "check_pieces" "check_pieces" (defArgs s_check_pieces) (defBody s_check_pieces) (defScope s_check_pieces) [] [] f fd) (h_isL : IsiF K mg C) (he_InvalidList : ExK P w K mg base 1 "InvalidList") (h_is_piece : CallOk P w K mg base C 2 "is_piece" 1 S_is_piece []) : FnOk P w K mg base (CXp P w) 3 f fd ["pieces"] (spX ⟨K, C⟩ 1 Sx_check_pieces) := by
  have nd := sc_check_pieces.nd
  refine fn_okX 2 1 F sc_check_pieces (fun cdv A outer s H E hr =>
      (qss_cons (qs_if (QW.qt (qw_or (qt_not (qt_val (q_isiB .lst h_isL (qv 0) rfl T.b_isinstance bb_isinstance rfl T.b_list bb_list))) (qw_or (qt_cmp (c_eqNB hr) (qv 0) (q_lst qa_nil)) (qw_or1 (qt_cmp c_gt (q_cb b_len rfl T.b_len bb_len (qa_cons (qv 0) qa_nil)) qi)))))
        (qss_one (qs_raise (c := "InvalidList") he_InvalidList hr (by decide) (qa_cons (qv 0) qa_nil)))
        qss_nil)
      (qss_one (qs_if (qt_cmp (c_neNl hr) (q_lc (own := [("piece", 1)]) nd (qi_list (qv 0)) (blkOk_by (own := [("piece", 1)]) (N := N_check_pieces) (sc := defScope s_check_pieces) (by decide +kernel)) (fun _ _ _ _ _ => (qgw_name (i := 1) nd)) (fun _ _ _ _ _ => (qts_one (qt_not (qt_val (qc h_is_piece hr (by decide) (qa_cons (qv 1) qa_nil)))))) (fun _ _ _ _ _ => (qv 1))) (q_lst qa_nil))
        (qss_one (qs_raise (c := "InvalidList") he_InvalidList hr (by decide) (qa_cons (qv 0) qa_nil)))
        qss_nil)))) ?_
  rintro ds M Xd - ⟨d, rfl, hb, hX⟩
  have fin : finX M Xd ⟨"InvalidList", d⟩ M := finX_to M Sub.refl (fun _ h => h) hb.fld hX
  walk_at "w"
  rcases hb with ⟨p, es, rfl, hp, hl, el, hbad⟩ | ⟨ty, pu, nl⟩
  · rw [f_tyMown, hp]
    walk_at "w"
    rw [hp]
    refine ⟨fun _ => fin, fun hne => ?_⟩
    refine ⟨fun _ => fin, fun h12 => ?_⟩
    have bad : ∃ e ∈ es, pieceB e = false := by
      rcases hbad with rfl | h | h
      · cases hne
      · exact absurd h (by omega)
      · exact h
    refine mf_own (fun e => !pieceB e) (fun d => d) p es (fun F z => by walk_at "w"; exact z) hp (Nat.lt_of_le_of_lt (Nat.le_of_lt hl) (show 1000 < sizeLine by decide)) (fun e he _ => (el e he).pu) ?_ ?_
    · intro j e pp acc P Q hd hpp hP hQ
      have ok := el e (List.mem_of_getElem? hd)
      walk_at "w"
      refine ⟨e, rfl, ok, ?_⟩
      walk_at "w"
      exact ⟨fun c => hP (by simp [c]), fun c => hQ (by simp [c])⟩
    rw [List.map_id']
    walk_at "w"
    refine ⟨fun _ => fin, fun z => ?_⟩
    obtain ⟨e, he, pe⟩ := bad
    have hf : e ∈ es.filter fun e => !pieceB e := List.mem_filter.mpr ⟨he, by rw [pe]; rfl⟩
    rw [List.isEmpty_iff] at z
    rw [z] at hf
    cases hf
  · cases d with
    | scr _ => cases ty
    | exn _ _ => cases ty
    | exn0 _ => cases ty
    | cls => cases ty
    | own _ => cases ty
    | lst l => exact absurd rfl (nl l)
    | _ => walk_at "w"; exact fin
def Sx_pieces_slopes : DSx := fun ds M X => ∃ d, ds = [d] ∧ BadPs M d ∧ X ⟨"InvalidList", d⟩ M
theorem okx_pieces_slopes {P : Program} {w : World} {K : PySem.W.Frag} {mg : Str → Option Value} {base : Heap} {C f : Addr} {fd : FuncData} (T : Txt K mg) (F : FunD K "pieces_slopes" "pieces_slopes" (defArgs s_pieces_slopes) (defBody s_pieces_slopes) (defScope s_pieces_slopes) [] [] f fd) (hx_check_pieces : CallX P w K mg base C 3 "check_pieces" 1 S_check_pieces Sx_check_pieces []) : FnOk P w K mg base (CXp P w) 4 f fd ["pieces"] (spX ⟨K, C⟩ 1 Sx_pieces_slopes) := by
  have nd := sc_pieces_slopes.nd
  refine fn_okX 4 1 F sc_pieces_slopes (fun cdv A outer s H E hr =>
      (qss_cons (qs_exprX (qxc hx_check_pieces hr (by decide) (QA.x (qa_cons (qv 0) qa_nil))))
      qss_never)) ?_
  rintro ds M Xd - ⟨d, rfl, hb, hX⟩
  have fin : finX M Xd ⟨"InvalidList", d⟩ M := finX_to M Sub.refl (fun _ h => h) hb.fld hX
  walk_at "w"
  exact .inr ⟨d, rfl, hb, fin⟩
abbrev N_no_line : List Str := ["pieces", "first", "second", "never"]
theorem sc_no_line : FnScope N_no_line ["pieces"] (defScope s_no_line) := ⟨rfl, rfl, rfl, by decide +kernel, rfl, by decide +kernel, by decide +kernel⟩
def S_no_line : DSp := fun ds M R _ => ∃ P : List Pc, ds = [.lst (P.map pcD)] ∧ (∀ p ∈ P, PcOk p) ∧ P ≠ [] ∧ P.length ≤ 12 ∧ ((∃ u v, 1 ≤ v ∧ SlP P u v) → R .non M) ∧ ((∀ u v, 1 ≤ v → ¬ SlP P u v) → ∀ b c, NevB P b c → R (.tup [brD b, brD c]) M)
theorem ok_no_line {P : Program} {w : World} {K : PySem.W.Frag} {mg : Str → Option Value} {base : Heap} {C f : Addr} {fd : FuncData} (T : Txt K mg) (F : FunD K "no_line" "no_line" (defArgs s_no_line) (defBody s_no_line) (defScope s_no_line) [] [] f fd) (h_pieces_slopes : CallOk P w K mg base C 11 "pieces_slopes" 1 S_pieces_slopes []) (h_bars_of : CallOk P w K mg base C 10 "bars_of" 1 S_bars_of []) : FnOk P w K mg base CX0 12 f fd ["pieces"] (spD ⟨K, C⟩ 1 S_no_line) := by
  have nd := sc_no_line.nd
  refine fn_ok 4 1 F sc_no_line (fun cdv A outer s H E hr =>
      (qss_cons (qs_if (qt_notN (qc h_pieces_slopes hr (by decide) (qa_cons (qv 0) qa_nil)))
        (qss_one (qs_ret qn))
        qss_nil)
      (qss_cons (qs_asg (qc h_bars_of hr (by decide) (qa_cons (qv 0) qa_nil)) (qg_tup (n := 3) (qgs_cons (qg_name (i := 1) nd) (qgs_cons (qg_name (i := 2) nd) (qgs_cons (qg_name (i := 3) nd) qgs_nil)))))
      (qss_cons (qs_if (qt_notN (qv 3))
        (qss_one (qs_ret (q_tup (qa_cons (qv 3) (qa_cons (qv 3) qa_nil)))))
        qss_nil)
      (qss_one (qs_ret (q_tup (qa_cons (q_ixC 1 (qv 1)) (qa_cons (q_ixC 1 (qv 2)) qa_nil))))))))) ?_
  rintro ds M R - ⟨P, rfl, ok, ne, len, h0, h1⟩
  walk_at "w"
  refine ⟨P, rfl, ok, ne, len, fun no => ?_, fun al => ?_, fun I sz iv => ?_⟩
  · walk_at "w"
    refine ⟨P, rfl, ok, by omega, fun L U f s n C Hf Hs Hn => ?_⟩
    rcases n with _ | ⟨a, b⟩
    · rcases f with _ | ⟨p, q, e, c⟩
      · exact absurd (C.all ne Hn Hf (u := 0) (v := 1) (by decide)) (no 0 1 (by decide))
      rcases s with _ | ⟨p2, q2, e2, c2⟩
      · exact absurd Hs (C.snd Hf)
      have nl : ¬ p * q2 < p2 * q := fun z => by
        have iv := fun u v (v1 : 1 ≤ v) => C.iv ne Hn Hf Hs (u := u) v1
        obtain ⟨_, _, _, _, Q1, g1⟩ := fr_ok (p := e.2.1 - c.2.1 - 1) (q := e.1 - c.1) (by have := Hf.2.1; omega)
        obtain ⟨_, _, _, _, Q2, g2⟩ := fr_ok (p := c2.2.1 + 1 - e2.2.1) (q := c2.1 - e2.1) (by have := Hs.2.1; omega)
        rw [← Hf.2.2.1] at Q1
        rw [← Hs.2.2.1] at Q2
        simp only at Q1 Q2
        refine no (p + p2) (q + q2) (by omega) ((iv _ _ (by omega)).mpr ⟨by omega, ?_, ?_⟩)
        · show p * (q + q2) < (p + p2) * q
          rw [Int.mul_add, Int.add_mul]; omega
        · show (p + p2) * q2 < p2 * (q + q2)
          rw [Int.mul_add, Int.add_mul]; omega
      simp only [bfD, nvD]
      walk_at "w"
      exact fin_pure (h1 no _ _ (two_bars C Hf Hs nl))
    · simp only [nvD, barD]
      walk_at "w"
      exact fin_pure (h1 no _ _ (nev_bar C Hn))
  · walk_at "w"
    exact fin_pure (h0 ⟨0, 1, by decide, al 0 1 (by decide)⟩)
  · walk_at "w"
    have ok1 := sz.ok
    have q1 := ok1.q1
    have q2 := ok1.q2
    have lt := ok1.lt
    exact fin_pure (h0 ⟨I.p1 + I.p2, I.q1 + I.q2, by omega, (iv _ _ (by omega)).mpr ⟨by omega, by rw [Int.mul_add, Int.add_mul]; omega, by rw [Int.mul_add, Int.add_mul]; omega⟩⟩)
def Sx_no_line : DSx := fun ds M X => ∃ d, ds = [d] ∧ BadPs M d ∧ X ⟨"InvalidList", d⟩ M
theorem okx_no_line {P : Program} {w : World} {K : PySem.W.Frag} {mg : Str → Option Value} {base : Heap} {C f : Addr} {fd : FuncData} (T : Txt K mg) (F : FunD K "no_line" "no_line" (defArgs s_no_line) (defBody s_no_line) (defScope s_no_line) [] [] f fd) (hx_pieces_slopes : CallX P w K mg base C 11 "pieces_slopes" 1 S_pieces_slopes Sx_pieces_slopes []) : FnOk P w K mg base (CXp P w) 12 f fd ["pieces"] (spX ⟨K, C⟩ 1 Sx_no_line) := by
  have nd := sc_no_line.nd
  refine fn_okX 4 1 F sc_no_line (fun cdv A outer s H E hr =>
      (qss_cons (qs_ifX (qxt_notN (qxc hx_pieces_slopes hr (by decide) (QA.x (qa_cons (qv 0) qa_nil))))
        (qss_one (qs_ret qn))
        qss_nil)
      qss_never)) ?_
  rintro ds M Xd - ⟨d, rfl, hb, hX⟩
  have fin : finX M Xd ⟨"InvalidList", d⟩ M := finX_to M Sub.refl (fun _ h => h) hb.fld hX
  walk_at "w"
  exact .inr ⟨d, rfl, hb, fin⟩
abbrev N_is_bar : List Str := ["pieces", "value", "number", "index", "part"]
theorem sc_is_bar : FnScope N_is_bar ["pieces", "value"] (defScope s_is_bar) := ⟨rfl, rfl, rfl, by decide +kernel, rfl, by decide +kernel, by decide +kernel⟩
def S_is_bar : DSp := fun ds M R _ => ∃ (P : List Pc) (v : D), ds = [.lst (P.map pcD), v] ∧ tyP v = true ∧ P.length ≤ 1000 ∧ R (.bl (barB P v).isSome) M
theorem ok_is_bar {P : Program} {w : World} {K : PySem.W.Frag} {mg : Str → Option Value} {base : Heap} {C f : Addr} {fd : FuncData} (T : Txt K mg) (F : FunD K "is_bar" "is_bar" (defArgs s_is_bar) (defBody s_is_bar) (defScope s_is_bar) [] [] f fd) (h_is_whole : CallOk P w K mg base C 1 "is_whole" 1 S_is_whole []) (h_isL : IsiF K mg C) : FnOk P w K mg base CX0 2 f fd ["pieces", "value"] (spD ⟨K, C⟩ 2 S_is_bar) := by
  have nd := sc_is_bar.nd
  refine fn_ok 5 2 F sc_is_bar (fun cdv A outer s H E hr =>
      (qss_cons (qs_if (QW.qt (qw_or (qt_not (qt_val (q_isiL .tup h_isL (qv 1) rfl T.b_isinstance bb_isinstance rfl T.b_tuple bb_tuple))) (qw_or (qt_cmp (c_ne hr) (q_cb b_len rfl T.b_len bb_len (qa_cons (qv 1) qa_nil)) qi) (qw_or1 (qt_cmp (c_neNl hr) (q_lc (own := [("part", 4)]) nd (qi_tup (qv 1)) (blkOk_by (own := [("part", 4)]) (N := N_is_bar) (sc := defScope s_is_bar) (by decide +kernel)) (fun _ _ _ _ _ => (qgw_name (i := 4) nd)) (fun _ _ _ _ _ => (qts_one (qt_not (qt_val (qc h_is_whole hr (by decide) (qa_cons (qv 4) qa_nil)))))) (fun _ _ _ _ _ => (qv 4))) (q_lst qa_nil))))))
        (qss_one (qs_ret qb))
        qss_nil)
      (qss_cons (qs_for (qi_list (q_lst (qa_cons (q_slT (qv 1) qo_none (qo_some qi)) (qa_cons (q_slT (qv 1) (qo_some qi) qo_none) qa_nil)))) (qg_tup (n := 2) (qgs_cons (qg_name (i := 2) nd) (qgs_cons (qg_name (i := 3) nd) qgs_nil)))
        (qss_one (qs_if (QW.qt (qw_or (qt_cmp c_lt (qv 3) qi) (qw_or (qt_cmp c_ge (qv 3) (q_cb b_len rfl T.b_len bb_len (qa_cons (qv 0) qa_nil))) (qw_or (qt_cmp c_lt (qv 2) (q_ixC 1 (q_ix (qv 0) (qv 3)))) (qw_or1 (qt_cmp c_gt (qv 2) (q_ixC 2 (q_ix (qv 0) (qv 3)))))))))
          (qss_one (qs_ret qb))
          qss_nil)))
      (qss_one (qs_ret qb))))) ?_
  rintro ds M R - ⟨P, v, rfl, ty, len, hR⟩
  cases v with
  | tup vs =>
    match vs, ty, hR with
    | [], _, hR => walk_at "w"; exact fin_pure hR
    | [p], _, hR =>
      rw [bar_len (by simp)] at hR
      walk_at "w"; exact fin_pure hR
    | [p, q], _, hR =>
      rw [bar_len (by simp)] at hR
      walk_at "w"; exact fin_pure hR
    | [p, q, r], _, hR =>
      rw [bar_len (by simp)] at hR
      walk_at "w"; exact fin_pure hR
    | p :: q :: r :: t :: u :: w, _, hR =>
      rw [bar_len (by simp)] at hR
      walk_at "w"
      exact ⟨fun _ => fin_pure hR, fun z => absurd z (by omega)⟩
    | [p, q, r, t], ty, hR =>
      have hsc : ∀ d ∈ [p, q, r, t], tyL d = true ∧ pureD d = true := fun d hd => by
        have := List.all_eq_true.mp ty d hd
        unfold scP at this
        rw [Bool.and_eq_true] at this
        exact this
      walk_at "w"
      refine mf_tup (fun d => !isIntD d) (fun d => d) [p, q, r, t] (fun F z => by walk_at "w"; exact z) (show 4 < sizeLine by decide) (fun d hd _ => (hsc d hd).2) ?_ ?_
      · intro j d' pp acc P1 Q hd hpp hP hQ
        have ty1 := (hsc d' (List.mem_of_getElem? hd)).1
        walk_at "w"
        refine ⟨d', rfl, ty1, ?_⟩
        walk_at "w"
        exact ⟨fun c => hP (by simp [c]), fun c => hQ (by simp [c])⟩
      rw [List.map_id']
      walk_at "w"
      have e : (List.filter (fun d => !isIntD d) [p, q, r, t]).isEmpty = (isIntD p && (isIntD q && (isIntD r && isIntD t))) := by
        cases ea : isIntD p <;> cases eb : isIntD q <;> cases ec : isIntD r <;> cases ed : isIntD t <;> simp [ea, eb, ec, ed]
      rw [e]
      cases ci : (isIntD p && (isIntD q && (isIntD r && isIntD t))) with
      | false =>
        rw [bar_not ci] at hR
        walk_at "w"
        exact fin_pure hR
      | true =>
        obtain ⟨a, i, b, j, rfl, rfl, rfl, rfl⟩ := ints4 ci
        walk_at "w"
        refine vfor_unroll [.tup [.int a, .int i], .tup [.int b, .int j]] (fun F z => by walk_at "w"; exact ⟨by decide, by decide, z⟩) ?_
        walk_at "w"
        rw [List.length_map]
        refine ⟨fun z => ?_, fun z1 => ⟨fun z => ?_, fun z2 => ?_⟩⟩
        · rw [bar_n1 (by unfold pcAt; exact if_neg (by omega))] at hR
          exact fin_pure hR
        · rcases pcAt_cases P a i with ⟨y, e0⟩ | ⟨_, y, e0⟩ | ⟨k, p, rfl, y, _⟩
          · omega
          · rw [bar_n1 e0] at hR; exact fin_pure hR
          · omega
        rcases pcAt_cases P a i with ⟨y, e0⟩ | ⟨y, _, e0⟩ | ⟨k, p, rfl, y, kp, h3⟩
        · omega
        · omega
        refine ⟨_, atI_pc kp, ?_⟩
        simp only [pcD]
        walk_at "w"
        refine ⟨fun z => ?_, fun z3 => ⟨_, atI_pc kp, ?_⟩⟩
        · rcases h3 with ⟨_, e0⟩ | ⟨_, _, e0⟩ | ⟨_, _, e0⟩
          · rw [bar_n1 e0] at hR; exact fin_pure hR
          · omega
          · omega
        simp only [pcD]
        walk_at "w"
        refine ⟨fun z => ?_, fun z4 => ?_⟩
        · rcases h3 with ⟨_, e0⟩ | ⟨_, _, e0⟩ | ⟨_, _, e0⟩
          · omega
          · rw [bar_n1 e0] at hR; exact fin_pure hR
          · omega
        have h3 : pcAt P a k = some p := by
          rcases h3 with ⟨_, e0⟩ | ⟨_, _, e0⟩ | ⟨_, _, e0⟩
          · omega
          · omega
          · exact e0
        refine ⟨fun z => ?_, fun z1 => ⟨fun z => ?_, fun z2 => ?_⟩⟩
        · rw [bar_n2 (by unfold pcAt; exact if_neg (by omega))] at hR
          exact fin_pure hR
        · rcases pcAt_cases P b j with ⟨y, e0⟩ | ⟨_, y, e0⟩ | ⟨k, p, rfl, y, _⟩
          · omega
          · rw [bar_n2 e0] at hR; exact fin_pure hR
          · omega
        rcases pcAt_cases P b j with ⟨y, e0⟩ | ⟨y, _, e0⟩ | ⟨m, q, rfl, y, kq, h4⟩
        · omega
        · omega
        refine ⟨_, atI_pc kq, ?_⟩
        simp only [pcD]
        walk_at "w"
        refine ⟨fun z => ?_, fun z5 => ⟨_, atI_pc kq, ?_⟩⟩
        · rcases h4 with ⟨_, e0⟩ | ⟨_, _, e0⟩ | ⟨_, _, e0⟩
          · rw [bar_n2 e0] at hR; exact fin_pure hR
          · omega
          · omega
        simp only [pcD]
        walk_at "w"
        refine ⟨fun z => ?_, fun z6 => ?_⟩
        · rcases h4 with ⟨_, e0⟩ | ⟨_, _, e0⟩ | ⟨_, _, e0⟩
          · omega
          · rw [bar_n2 e0] at hR; exact fin_pure hR
          · omega
        have h4 : pcAt P b m = some q := by
          rcases h4 with ⟨_, e0⟩ | ⟨_, _, e0⟩ | ⟨_, _, e0⟩
          · omega
          · omega
          · exact e0
        rw [bar_s h3 h4] at hR
        exact fin_pure hR
  | scr _ => cases ty
  | own _ => cases ty
  | exn _ _ => cases ty
  | exn0 _ => cases ty
  | cls => cases ty
  | ln _ _ _ => walk_at "w"; exact fin_pure hR
  | _ => walk_at "w"; exact fin_pure hR
abbrev N_meaning : List Str := ["pieces", "bar", "other", "place", "number", "index"]
theorem sc_meaning : FnScope N_meaning ["pieces", "bar"] (defScope s_meaning) := ⟨rfl, rfl, rfl, by decide +kernel, rfl, by decide +kernel, by decide +kernel⟩
def S_meaning : DSp := fun ds M R _ => ∃ (P : List Pc) (b : Br) (p q : Pc), ds = [.lst (P.map pcD), brD b] ∧ BrOk P b p q ∧ DOk p.1 p.2.1 p.2.2 ∧ DOk q.1 q.2.1 q.2.2 ∧ P.length ≤ 1000 ∧ R (.tup [.int (brd b), .int (bre p q b)]) M
theorem ok_meaning {P : Program} {w : World} {K : PySem.W.Frag} {mg : Str → Option Value} {base : Heap} {C f : Addr} {fd : FuncData} (T : Txt K mg) (F : FunD K "meaning" "meaning" (defArgs s_meaning) (defBody s_meaning) (defScope s_meaning) [] [] f fd) (h_callO : COk P w K mg base C 3 2 S_Line___call__) : FnOk P w K mg base CX0 4 f fd ["pieces", "bar"] (spD ⟨K, C⟩ 2 S_meaning) := by
  have nd := sc_meaning.nd
  refine fn_ok 6 2 F sc_meaning (fun cdv A outer s H E hr =>
      (qss_cons (qs_asg (qv 1) (qg_tup (n := 4) (qgs_cons (qg_name (i := 2) nd) (qgs_cons (qg_name (i := 3) nd) (qgs_cons (qg_name (i := 4) nd) (qgs_cons (qg_name (i := 5) nd) qgs_nil))))))
      (qss_one (qs_ret (q_tup (qa_cons (q_sub (qv 4) (qv 2)) (qa_cons (q_sub (q_sub (q_callO h_callO hr (by decide) (q_ixC 0 (q_ix (qv 0) (qv 5))) (qa_cons (qv 4) qa_nil)) (q_callO h_callO hr (by decide) (q_ixC 0 (q_ix (qv 0) (qv 3))) (qa_cons (qv 2) qa_nil))) qi) qa_nil))))))) ?_
  rintro ds M R - ⟨P, b, p, q, rfl, ok, kp, kq, len, hR⟩
  unfold brD
  walk_at "w"
  refine ⟨_, atI_pc ok.j, ?_⟩
  simp only [pcD, trL]
  walk_at "w"
  refine ⟨q.1.1, q.1.2.1, q.1.2.2, _, rfl, mul_ok kq.st (sm_between kq.sl kq.sh ok.b0 ok.b1) (by decide), cd_ok (by have := kq.o1; omega) kq.so (by decide), ?_⟩
  walk_at "w"
  refine ⟨_, atI_pc ok.i, ?_⟩
  simp only [pcD, trL]
  walk_at "w"
  refine ⟨p.1.1, p.1.2.1, p.1.2.2, _, rfl, mul_ok kp.st (sm_between kp.sl kp.sh ok.a0 ok.a1) (by decide), cd_ok (by have := kp.o1; omega) kp.so (by decide), ?_⟩
  walk_at "w"
  exact fin_pure hR
abbrev N_check_no_line : List Str := ["pieces", "claim", "one", "its", "other", "their", "bar"]
theorem sc_check_no_line : FnScope N_check_no_line ["pieces", "claim"] (defScope s_check_no_line) := ⟨rfl, rfl, rfl, by decide +kernel, rfl, by decide +kernel, by decide +kernel⟩
theorem bar_sm {P : List Pc} {v : D} {d e : Int} (ok : ∀ p ∈ P, DOk p.1 p.2.1 p.2.2) (h : barB P v = some (d, e)) : Sm 501 d ∧ Sm 1003 e := by
  obtain ⟨b, p, q, rfl, ob, rfl, rfl⟩ := bar_some h
  have kp := ok _ (List.mem_of_getElem? ob.i)
  have kq := ok _ (List.mem_of_getElem? ob.j)
  exact ⟨Sm.sub (sm_between kq.sl kq.sh ob.b0 ob.b1) (sm_between kp.sl kp.sh ob.a0 ob.a1), Sm.sub (a := 1002) (Sm.sub (kq.val ob.b0 ob.b1) (kp.val ob.a0 ob.a1)) ((show Sm 1 1 by decide).mono (by decide))⟩
def S_check_no_line : DSp := fun ds M R _ => ∃ (P : List Pc) (v : D), ds = [.lst (P.map pcD), v] ∧ tyQ v = true ∧ (∀ p ∈ P, DOk p.1 p.2.1 p.2.2) ∧ P ≠ [] ∧ P.length ≤ 12 ∧ R (.bl (clnB P v)) M
theorem two_nil {f : D → Bool} {p q : D} : (List.filter (fun d => !f d) [p, q]).isEmpty = (f p && f q) := by
  cases ea : f p <;> cases eb : f q <;> simp [ea, eb]
theorem ok_check_no_line {P : Program} {w : World} {K : PySem.W.Frag} {mg : Str → Option Value} {base : Heap} {C f : Addr} {fd : FuncData} (T : Txt K mg) (F : FunD K "check_no_line" "check_no_line" (defArgs s_check_no_line) (defBody s_check_no_line) (defScope s_check_no_line) [] [] f fd) (h_check_pieces : CallOk P w K mg base C 3 "check_pieces" 1 S_check_pieces []) (h_is_bar : CallOk P w K mg base C 2 "is_bar" 2 S_is_bar []) (h_isL : IsiF K mg C) (h_meaning : CallOk P w K mg base C 4 "meaning" 2 S_meaning []) : FnOk P w K mg base CX0 5 f fd ["pieces", "claim"] (spD ⟨K, C⟩ 2 S_check_no_line) := by
  have nd := sc_check_no_line.nd
  refine fn_ok 7 2 F sc_check_no_line (fun cdv A outer s H E hr =>
      (qss_cons (qs_expr (qc h_check_pieces hr (by decide) (qa_cons (qv 0) qa_nil)))
      (qss_cons (qs_if (QW.qt (qw_or (qt_not (qt_val (q_isiL .tup h_isL (qv 1) rfl T.b_isinstance bb_isinstance rfl T.b_tuple bb_tuple))) (qw_or (qt_cmp (c_ne hr) (q_cb b_len rfl T.b_len bb_len (qa_cons (qv 1) qa_nil)) qi) (qw_or1 (qt_cmp (c_neNl hr) (q_lc (own := [("bar", 6)]) nd (qi_tup (qv 1)) (blkOk_by (own := [("bar", 6)]) (N := N_check_no_line) (sc := defScope s_check_no_line) (by decide +kernel)) (fun _ _ _ _ _ => (qgw_name (i := 6) nd)) (fun _ _ _ _ _ => (qts_one (qt_not (qt_val (qc h_is_bar hr (by decide) (qa_cons (qv 0) (qa_cons (qv 6) qa_nil))))))) (fun _ _ _ _ _ => (qv 6))) (q_lst qa_nil))))))
        (qss_one (qs_ret qb))
        qss_nil)
      (qss_cons (qs_asg (q_lc (own := [("bar", 6)]) nd (qi_tup (qv 1)) (blkOk_by (own := [("bar", 6)]) (N := N_check_no_line) (sc := defScope s_check_no_line) (by decide +kernel)) (fun _ _ _ _ _ => (qgw_name (i := 6) nd)) (fun _ _ _ _ _ => qts_nil) (fun _ _ _ _ _ => (qc h_meaning hr (by decide) (qa_cons (qv 0) (qa_cons (qv 6) qa_nil))))) (qg_lst (n := 2) (qgs_cons (qg_tup (n := 2) (qgs_cons (qg_name (i := 2) nd) (qgs_cons (qg_name (i := 3) nd) qgs_nil))) (qgs_cons (qg_tup (n := 2) (qgs_cons (qg_name (i := 4) nd) (qgs_cons (qg_name (i := 5) nd) qgs_nil))) qgs_nil))))
      (qss_cons (qs_if (QW.qt (qw_or (QW.qt (qw_and (qt_cmp (c_eq hr) (qv 2) qi) (qw_and1 (qt_cmp c_ge (qv 3) qi)))) (qw_or1 (QW.qt (qw_and (qt_cmp (c_eq hr) (qv 4) qi) (qw_and1 (qt_cmp c_ge (qv 5) qi)))))))
        (qss_one (qs_ret qb))
        qss_nil)
      (qss_cons (qs_if (QW.qt (qw_or (qt_cmp (c_eq hr) (qv 2) qi) (qw_or (qt_cmp (c_eq hr) (qv 4) qi) (qw_or1 (qt_cmp (c_eq hr) (q_cmp c_gt (qv 2) qi) (q_cmp c_gt (qv 4) qi))))))
        (qss_one (qs_ret qb))
        qss_nil)
      (qss_cons (qs_if (qt_cmp c_lt (qv 2) qi)
        (qss_one (qs_asg (q_tup (qa_cons (qv 4) (qa_cons (qv 5) (qa_cons (qv 2) (qa_cons (qv 3) qa_nil))))) (qg_tup (n := 4) (qgs_cons (qg_name (i := 2) nd) (qgs_cons (qg_name (i := 3) nd) (qgs_cons (qg_name (i := 4) nd) (qgs_cons (qg_name (i := 5) nd) qgs_nil)))))))
        qss_nil)
      (qss_one (qs_ret (q_cmp c_le (q_mul (qv 3) (qv 4)) (q_mul (qv 5) (qv 2)))))))))))) ?_
  rintro ds M R - ⟨P, v, rfl, ty, ok, ne, len, hR⟩
  walk_at "w"
  refine ⟨P, rfl, ne, len, fun p hp => (ok p hp).lh, ?_⟩
  cases v with
  | tup vs =>
    match vs, ty, hR with
    | [], _, hR => walk_at "w"; exact fin_pure hR
    | [p], _, hR => walk_at "w"; exact fin_pure hR
    | p :: q :: r :: t, _, hR =>
      rw [cln_len (by simp)] at hR
      walk_at "w"
      exact ⟨fun _ => fin_pure hR, fun z => absurd z (by omega)⟩
    | [p, q], ty, hR =>
      have hsc : ∀ d ∈ [p, q], tyP d = true ∧ pureD d = true := fun d hd => by
        have := List.all_eq_true.mp ty d hd
        rw [Bool.and_eq_true] at this
        exact this
      walk_at "w"
      refine mf_tup (fun d => !(barB P d).isSome) (fun d => d) [p, q] (fun F z => by walk_at "w"; exact z) (show 2 < sizeLine by decide) (fun d hd _ => (hsc d hd).2) ?_ ?_
      · intro j d' pp acc P1 Q hd hpp hP hQ
        have ty1 := (hsc d' (List.mem_of_getElem? hd)).1
        walk_at "w"
        refine ⟨P, d', rfl, ty1, by omega, ?_⟩
        walk_at "w"
        exact ⟨fun c => hP (by simp [c]), fun c => hQ (by simp [c])⟩
      rw [List.map_id']
      walk_at "w"
      rw [two_nil (f := fun d => (barB P d).isSome)]
      cases e1 : barB P p with
      | none =>
        rw [cln_n1 e1] at hR
        walk_at "w"
        simp only [Option.isSome_none]
        walk_at "w"
        exact fin_pure hR
      | some x =>
      cases e2 : barB P q with
      | none =>
        rw [cln_n2 e2] at hR
        simp only [Option.isSome_none]
        walk_at "w"
        exact fin_pure hR
      | some y =>
      obtain ⟨d1, f1⟩ := x
      obtain ⟨d2, f2⟩ := y
      rw [cln_s e1 e2] at hR
      obtain ⟨sb, tb⟩ := bar_sm ok e1
      obtain ⟨sc, tc⟩ := bar_sm ok e2
      have m1 : IntMulOk f1 d2 := mul_ok tb sc (by decide)
      have m2 : IntMulOk f2 d1 := mul_ok tc sb (by decide)
      obtain ⟨b, p1, q1, rfl, ob, rfl, rfl⟩ := bar_some e1
      obtain ⟨c, p2, q2, rfl, oc, rfl, rfl⟩ := bar_some e2
      have two : ∀ (j : Nat) (d : D), [brD b, brD c][j]? = some d → ∃ b' p' q', d = brD b' ∧ BrOk P b' p' q' := fun j d hd => by
        have := List.mem_of_getElem? hd
        simp at this
        rcases this with rfl | rfl
        · exact ⟨b, _, _, rfl, ob⟩
        · exact ⟨c, _, _, rfl, oc⟩
      simp only [Option.isSome_some]
      walk_at "w"
      refine mf_tup (fun _ => true) (brF P) [brD b, brD c] (fun F z => by walk_at "w"; exact z) (show 2 < sizeLine by decide) (fun d hd _ => ?_) ?_ ?_
      · simp at hd
        rcases hd with rfl | rfl
        · rw [brF_ok ob]; rfl
        · rw [brF_ok oc]; rfl
      · intro j d pp acc P1 Q hd hpp hP hQ
        obtain ⟨b', p', q', rfl, ok'⟩ := two j d hd
        walk_at "w"
        refine ⟨P, b', p', q', rfl, ok', ok _ (List.mem_of_getElem? ok'.i), ok _ (List.mem_of_getElem? ok'.j), by omega, ?_⟩
        rw [brF_ok ok'] at hP
        walk_at "w"
        exact hP rfl
      simp only [List.filter_cons, List.filter_nil, if_true, List.map_cons, List.map_nil, brF_ok ob, brF_ok oc]
      walk_at "w"
      generalize brd b = d1 at *
      generalize brd c = d2 at *
      generalize bre p1 q1 b = f1 at *
      generalize bre p2 q2 c = f2 at *
      unfold decB at hR
      generalize f1 * d2 = A at *
      generalize f2 * d1 = B at *
      have key : ∀ Y : Prop, ∀ [Decidable Y], (Y ↔ ((d1 = 0 ∧ 0 ≤ f1) ∨ (d2 = 0 ∧ 0 ≤ f2) ∨ (0 < d1 ∧ d2 < 0 ∧ A ≤ B) ∨ (d1 < 0 ∧ 0 < d2 ∧ B ≤ A))) → fin M R (.bl (decide Y)) M := fun Y _ h => by
        refine fin_pure ?_
        rw [show decide Y = decide _ from decide_eq_decide.mpr h]
        exact hR
      have key1 : ((d1 = 0 ∧ 0 ≤ f1) ∨ (d2 = 0 ∧ 0 ≤ f2) ∨ (0 < d1 ∧ d2 < 0 ∧ A ≤ B) ∨ (d1 < 0 ∧ 0 < d2 ∧ B ≤ A)) → fin M R (.bl true) M := fun h => key True ⟨fun _ => h, fun _ => trivial⟩
      have key0 : ¬ ((d1 = 0 ∧ 0 ≤ f1) ∨ (d2 = 0 ∧ 0 ≤ f2) ∨ (0 < d1 ∧ d2 < 0 ∧ A ≤ B) ∨ (d1 < 0 ∧ 0 < d2 ∧ B ≤ A)) → fin M R (.bl false) M := fun h => key False ⟨fun z => z.elim, fun z => h z⟩
      clear hR
      have eb : (decide (0 < d1) == decide (0 < d2)) = decide ((0 < d1) ↔ (0 < d2)) := by
        by_cases z1 : 0 < d1 <;> by_cases z2 : 0 < d2 <;> simp [z1, z2]
      rw [eb]
      simp only [decide_eq_true_eq, decide_eq_false_iff_not]
      repeat' (first | exact m1 | exact m2 | (refine key1 ?_; omega) | (refine key0 ?_; omega) | (refine key _ ?_; omega) | apply And.intro | intro _)
  | scr _ => cases ty
  | own _ => cases ty
  | exn _ _ => cases ty
  | exn0 _ => cases ty
  | cls => cases ty
  | ln _ _ _ => walk_at "w"; exact fin_pure hR
  | _ => walk_at "w"; exact fin_pure hR
def Sx_check_no_line : DSx := fun ds M X => ∃ d c, ds = [d, c] ∧ BadPs M d ∧ X ⟨"InvalidList", d⟩ M
theorem okx_check_no_line {P : Program} {w : World} {K : PySem.W.Frag} {mg : Str → Option Value} {base : Heap} {C f : Addr} {fd : FuncData} (T : Txt K mg) (F : FunD K "check_no_line" "check_no_line" (defArgs s_check_no_line) (defBody s_check_no_line) (defScope s_check_no_line) [] [] f fd) (hx_check_pieces : CallX P w K mg base C 3 "check_pieces" 1 S_check_pieces Sx_check_pieces []) : FnOk P w K mg base (CXp P w) 4 f fd ["pieces", "claim"] (spX ⟨K, C⟩ 2 Sx_check_no_line) := by
  have nd := sc_check_no_line.nd
  refine fn_okX 7 2 F sc_check_no_line (fun cdv A outer s H E hr =>
      (qss_cons (qs_exprX (qxc hx_check_pieces hr (by decide) (QA.x (qa_cons (qv 0) qa_nil))))
      qss_never)) ?_
  rintro ds M Xd - ⟨d, c, rfl, hb, hX⟩
  have fin : finX M Xd ⟨"InvalidList", d⟩ M := finX_to M Sub.refl (fun _ h => h) hb.fld hX
  walk_at "w"
  exact .inr ⟨d, rfl, hb, fin⟩
abbrev N_check_base : List Str := ["base"]
theorem sc_check_base : FnScope N_check_base ["base"] (defScope s_check_base) := ⟨rfl, rfl, rfl, by decide +kernel, rfl, by decide +kernel, by decide +kernel⟩
def S_check_base : DSp := fun ds M R _ => ∃ b : Int, ds = [.int b] ∧ 2 ≤ b ∧ b ≤ 36 ∧ R .non M
theorem ok_check_base {P : Program} {w : World} {K : PySem.W.Frag} {mg : Str → Option Value} {base : Heap} {C f : Addr} {fd : FuncData} (T : Txt K mg) (F : FunD K "check_base" "check_base" (defArgs s_check_base) (defBody s_check_base) (defScope s_check_base) [] [] f fd) (h_is_whole : CallOk P w K mg base C 1 "is_whole" 1 S_is_whole []) : FnOk P w K mg base CX0 2 f fd ["base"] (spD ⟨K, C⟩ 1 S_check_base) := by
  have nd := sc_check_base.nd
  refine fn_ok 1 1 F sc_check_base (fun cdv A outer s H E hr =>
      (qss_one (qs_if (QW.qt (qw_or (qt_not (qt_val (qc h_is_whole hr (by decide) (qa_cons (qv 0) qa_nil)))) (qw_or (qt_cmp c_lt (qv 0) qi) (qw_or1 (qt_cmp c_gt (qv 0) qi)))))
        (qss_one qs_never)
        qss_nil))) ?_
  rintro ds M R - ⟨b, rfl, b2, b1, hR⟩
  walk_at "w"
  refine ⟨_, rfl, rfl, ?_⟩
  walk_at "w"
  exact ⟨fun h => by omega, fun _ => ⟨fun h => by omega, fun _ => fin_pure hR⟩⟩
abbrev N_inside : List Str := ["first", "second", "scale", "least", "most"]
theorem sc_inside : FnScope N_inside ["first", "second", "scale"] (defScope s_inside) := ⟨rfl, rfl, rfl, by decide +kernel, rfl, by decide +kernel, by decide +kernel⟩
def S_inside : DSp := fun ds M R _ => ∃ (I : Iv) (s : Int), ds = [.tup [.int I.p1, .int I.q1], .tup [.int I.p2, .int I.q2], .int s] ∧ IOk I ∧ Sm 1003 I.p1 ∧ Sm 1003 I.p2 ∧ Sm 501 I.q1 ∧ Sm 501 I.q2 ∧ Sm 13000 s ∧ 1 ≤ s ∧ ((∀ m, ¬ InI I m s) → R .non M) ∧ (InI I (lwM I.p1 I.q1 s) s → R (.tup [.int (lwM I.p1 I.q1 s), .int (moM I.p2 I.q2 s)]) M)
theorem ok_inside {P : Program} {w : World} {K : PySem.W.Frag} {mg : Str → Option Value} {base : Heap} {C f : Addr} {fd : FuncData} (T : Txt K mg) (F : FunD K "inside" "inside" (defArgs s_inside) (defBody s_inside) (defScope s_inside) [] [] f fd)  : FnOk P w K mg base CX0 1 f fd ["first", "second", "scale"] (spD ⟨K, C⟩ 3 S_inside) := by
  have nd := sc_inside.nd
  refine fn_ok 5 3 F sc_inside (fun cdv A outer s H E hr =>
      (qss_cons (qs_set (i := 3) nd (q_add (q_div (q_mul (q_ixC 0 (qv 0)) (qv 2)) (q_ixC 1 (qv 0))) qi))
      (qss_cons (qs_set (i := 4) nd (q_sub (q_neg (q_div (q_mul (q_neg (q_ixC 0 (qv 1))) (qv 2)) (q_ixC 1 (qv 1)))) qi))
      (qss_cons (qs_if (qt_cmp c_gt (qv 3) (qv 4))
        (qss_one (qs_ret qn))
        qss_nil)
      (qss_one (qs_ret (q_tup (qa_cons (qv 3) (qa_cons (qv 4) qa_nil))))))))) ?_
  rintro ds M R - ⟨I, s, rfl, ok, s1, s2, s3, s4, ss, hs, hN, hR⟩
  have q1 := ok.q1
  have q2 := ok.q2
  walk_at "w"
  refine ⟨mul_ok s1 ss (by decide), cd_ok (by omega) s3 (by decide), mul_ok s2.neg ss (by decide), cd_ok (by omega) s4 (by decide), ?_⟩
  refine ⟨fun c => fin_pure (hN fun m hm => ?_), fun c => fin_pure (hR ((in_iff ok hs).mpr ⟨Int.le_refl _, ?_⟩))⟩
  · have := (in_iff ok hs).mp hm
    unfold lwM moM at this
    omega
  · unfold lwM moM
    omega
abbrev N_power : List Str := ["base", "exponent", "found"]
theorem sc_power : FnScope N_power ["base", "exponent"] (defScope s_power) := ⟨rfl, rfl, rfl, by decide +kernel, rfl, by decide +kernel, by decide +kernel⟩
def S_power : DSp := fun ds M R _ => ∃ (b : Int) (k : Nat), ds = [.int b, .int k] ∧ 2 ≤ b ∧ b ≤ 36 ∧ k ≤ 2000 ∧ R (.int (b ^ k)) M
theorem ok_power {P : Program} {w : World} {K : PySem.W.Frag} {mg : Str → Option Value} {base : Heap} {C f : Addr} {fd : FuncData} (T : Txt K mg) (F : FunD K "power" "power" (defArgs s_power) (defBody s_power) (defScope s_power) [] [] f fd)  : FnOk P w K mg base CX0 1 f fd ["base", "exponent"] (spD ⟨K, C⟩ 2 S_power) := by
  have nd := sc_power.nd
  refine fn_ok 3 2 F sc_power (fun cdv A outer s H E hr =>
      (qss_cons (qs_set (i := 2) nd qi)
      (qss_cons (qs_while (qt_cmp c_gt (qv 1) qi)
        (qss_cons (qs_if (qt_cmp (c_eq hr) (q_mod (qv 1) qi) qi)
          (qss_one (qs_set (i := 2) nd (q_mul (qv 2) (qv 0))))
          qss_nil)
        (qss_one (qs_par (i := 0) (j := 1) nd (qa_cons (q_mul (qv 0) (qv 0)) (qa_cons (q_div (qv 1) qi) qa_nil))))))
      (qss_one (qs_ret (qv 2)))))) ?_
  rintro ds M R - ⟨b, k, rfl, b2, b1, hk, hR⟩
  have sP : Sm 12001 (b ^ k) := (pow_sm (by omega) b1 k).mono (by omega)
  walk_at "w"
  refine vWhile_of (fun m γ M' => M' = M ∧ ∃ (F B : Int), γ = [some (.int B), some (.int m), some (.int F)] ∧ 1 ≤ F ∧ 1 ≤ B ∧ F * B ^ m = b ^ k) ⟨k, rfl, 1, b, rfl, by omega, by omega, by rw [Int.one_mul]⟩ ?_
  rintro m γ' _ ⟨rfl, F, B, rfl, F1, B1, e⟩
  obtain ⟨hF, hB⟩ := pow_bound (E := m) F1 B1
  rw [e] at hF hB
  have sF : Sm 12001 F := sP.le (by omega) hF
  walk_at "w"
  refine ⟨fun hm => ?_, fun hm => ?_⟩
  · have sB : Sm 12001 B := sP.le (by omega) (hB (by omega))
    have hh := pow_half (F := F) (B := B) m
    have BB : 1 ≤ B * B := by have := Int.mul_le_mul B1 B1 (by omega) (by omega); omega
    have FB : 1 ≤ F * B := by have := Int.mul_le_mul F1 B1 (by omega) (by omega); omega
    have e2 : (m : Int) / 2 = (m / 2 : Nat) := by omega
    refine ⟨fun c => ⟨mul_ok sF sB (by decide), mul_ok sB sB (by decide), cdS (by decide) (by decide), m / 2, by omega, F * B, B * B, by rw [e2], FB, BB, ?_⟩, fun c => ⟨mul_ok sB sB (by decide), cdS (by decide) (by decide), m / 2, by omega, F, B * B, by rw [e2], F1, BB, ?_⟩⟩
    · rw [if_pos (by omega)] at hh; rw [hh, e]
    · rw [if_neg (by omega)] at hh; rw [hh, e]
  · have : m = 0 := by omega
    subst this
    rw [Int.pow_zero, Int.mul_one] at e
    rw [e]
    exact fin_pure hR
abbrev N_pieces_recipe : List Str := ["pieces", "base", "ends", "lowers", "uppers", "shift", "least", "most", "multiplier", "start", "number", "value", "index"]
theorem sc_pieces_recipe : FnScope N_pieces_recipe ["pieces", "base"] (defScope s_pieces_recipe) := ⟨rfl, rfl, rfl, by decide +kernel, rfl, by decide +kernel, by decide +kernel⟩
def stF (S m : Int) : D → D
  | .tup (.int n :: .int f :: _) => .int (S * f - m * n)
  | d => d
theorem stF_map (S m : Int) (L : List Co) : (((L.map coD).filter fun _ => true).map (stF S m)) = (L.map fun e => S * e.2.1 - m * e.1).map D.int := by
  rw [List.filter_eq_self.mpr (fun _ _ => rfl), List.map_map, List.map_map]
  rfl
def S_pieces_recipe : DSp := fun ds M R _ => ∃ (P : List Pc) (b : Int), ds = [.lst (P.map pcD), .int b] ∧ (∀ p ∈ P, PcOk p) ∧ P ≠ [] ∧ P.length ≤ 12 ∧ 2 ≤ b ∧ b ≤ 36 ∧
  ((∀ u v, 1 ≤ v → ¬ SlP P u v) → R .non M) ∧ ((∀ u v, 1 ≤ v → SlP P u v) → ∀ L U e r, CorN P P.length L U → L = e :: r → R (.tup [.int 0, .int e.2.1, .int 0]) M) ∧
  ∀ (I : Iv) (m w : Int) (k : Nat), IvSz I → (∀ u v, 1 ≤ v → (SlP P u v ↔ InI I u v)) → NoS I b k → InI I (lwM I.p1 I.q1 (b ^ k)) (b ^ k) → m = min (max (lwM I.p1 I.q1 (b ^ k)) 0) (moM I.p2 I.q2 (b ^ k)) → Sm 2900 m → OkP P m w (b ^ k) → (∀ w', OkP P m w' (b ^ k) → w ≤ w') → R (.tup [.int m, .int w, .int k]) M
theorem ok_pieces_recipe {P : Program} {w : World} {K : PySem.W.Frag} {mg : Str → Option Value} {base : Heap} {C f : Addr} {fd : FuncData} (T : Txt K mg) (F : FunD K "pieces_recipe" "pieces_recipe" (defArgs s_pieces_recipe) (defBody s_pieces_recipe) (defScope s_pieces_recipe) [] [("base", .int (2))] f fd) (h_pieces_slopes : CallOk P w K mg base C 11 "pieces_slopes" 1 S_pieces_slopes []) (h_check_base : CallOk P w K mg base C 2 "check_base" 1 S_check_base []) (h_corners : CallOk P w K mg base C 9 "corners" 1 S_corners []) (h_inside : CallOk P w K mg base C 1 "inside" 3 S_inside []) (h_power : CallOk P w K mg base C 1 "power" 2 S_power []) : FnOk P w K mg base CX0 12 f fd ["pieces", "base"] (spD ⟨K, C⟩ 2 S_pieces_recipe) := by
  have nd := sc_pieces_recipe.nd
  refine fn_ok 13 2 F sc_pieces_recipe (fun cdv A outer s H E hr =>
      (qss_cons (qs_set (i := 2) nd (qc h_pieces_slopes hr (by decide) (qa_cons (qv 0) qa_nil)))
      (qss_cons (qs_expr (qc h_check_base hr (by decide) (qa_cons (qv 1) qa_nil)))
      (qss_cons (qs_if (qt_isN (qv 2))
        (qss_one (qs_ret qn))
        qss_nil)
      (qss_cons (qs_asg (qc h_corners hr (by decide) (qa_cons (qv 0) qa_nil)) (qg_tup (n := 2) (qgs_cons (qg_name (i := 3) nd) (qgs_cons (qg_name (i := 4) nd) qgs_nil))))
      (qss_cons (qs_if (qt_isN (q_ixC 0 (qv 2)))
        (qss_one (qs_ret (q_tup (qa_cons qi (qa_cons (q_ixC 1 (q_ixC 0 (qv 3))) (qa_cons qi qa_nil))))))
        qss_nil)
      (qss_cons (qs_set (i := 5) nd qi)
      (qss_cons (qs_while (qt_isN (qc h_inside hr (by decide) (qa_cons (q_ixC 0 (qv 2)) (qa_cons (q_ixC 1 (qv 2)) (qa_cons (qc h_power hr (by decide) (qa_cons (qv 1) (qa_cons (qv 5) qa_nil))) qa_nil)))))
        (qss_one (qs_augG ip_add (i := 5) nd qi)))
      (qss_cons (qs_asg (qc h_inside hr (by decide) (qa_cons (q_ixC 0 (qv 2)) (qa_cons (q_ixC 1 (qv 2)) (qa_cons (qc h_power hr (by decide) (qa_cons (qv 1) (qa_cons (qv 5) qa_nil))) qa_nil)))) (qg_tup (n := 2) (qgs_cons (qg_name (i := 6) nd) (qgs_cons (qg_name (i := 7) nd) qgs_nil))))
      (qss_cons (qs_set (i := 8) nd (q_cb b_min2 rfl T.b_min bb_min (qa_cons (q_cb b_max2 rfl T.b_max bb_max (qa_cons (qv 6) (qa_cons qi qa_nil))) (qa_cons (qv 7) qa_nil))))
      (qss_cons (qs_set (i := 9) nd (q_cb b_max1 rfl T.b_max bb_max (qa_cons (q_lc (own := [("number", 10), ("value", 11), ("index", 12)]) nd (qi_list (qv 3)) (blkOk_by (own := [("number", 10), ("value", 11), ("index", 12)]) (N := N_pieces_recipe) (sc := defScope s_pieces_recipe) (by decide +kernel)) (fun _ _ _ _ _ => (qgw_tup (n := 3) (qgsw_cons (qgw_name (i := 10) nd) (qgsw_cons (qgw_name (i := 11) nd) (qgsw_cons (qgw_name (i := 12) nd) qgsw_nil))))) (fun _ _ _ _ _ => qts_nil) (fun _ _ _ _ _ => (q_sub (q_mul (qc h_power hr (by decide) (qa_cons (qv 1) (qa_cons (qv 5) qa_nil))) (qv 11)) (q_mul (qv 8) (qv 10))))) qa_nil)))
      (qss_one (qs_ret (q_tup (qa_cons (qv 8) (qa_cons (qv 9) (qa_cons (qv 5) qa_nil))))))))))))))))) ?_
  rintro ds M R - ⟨P, b, rfl, ok, ne, len, b2, b36, h0, h1, h2⟩
  walk_at "w"
  refine ⟨P, rfl, ok, ne, len, fun no => ?_, fun al => ?_, fun I sz iv => ?_⟩
  · walk_at "w"
    refine ⟨b, rfl, b2, b36, ?_⟩
    walk_at "w"
    exact fin_pure (h0 no)
  · walk_at "w"
    refine ⟨b, rfl, b2, b36, ?_⟩
    walk_at "w"
    refine ⟨P, rfl, ok, by omega, fun L U C => ?_⟩
    have Ln : L ≠ [] := C.ne (by cases P with
      | nil => exact absurd rfl ne
      | cons _ _ => simp)
    cases L with
    | nil => exact absurd rfl Ln
    | cons e r =>
      simp only [List.map_cons, coD]
      walk_at "w"
      exact fin_pure (h1 al _ _ _ _ C rfl)
  · walk_at "w"
    refine ⟨b, rfl, b2, b36, ?_⟩
    walk_at "w"
    refine ⟨P, rfl, ok, by omega, fun L U C => ?_⟩
    have Ln : L ≠ [] := C.ne (by cases P with
      | nil => exact absurd rfl ne
      | cons _ _ => simp)
    obtain ⟨lo, uo⟩ := corn_sm C ok
    walk_at "w"
    have hok := sz.ok
    have P1 : ∀ j : Nat, 1 ≤ b ^ j := fun j => pow_one_le (by omega) j
    have Ll : L.length < sizeLine := Nat.lt_of_le_of_lt (show L.length ≤ 2000 by have := C.ln; omega) (show 2000 < sizeLine by decide)
    refine vWhile_of (fun m γ M' => M' = M ∧ ∃ j : Nat, γ = [some (.lst (P.map pcD)), some (.int b), some (.tup [.tup [.int I.p1, .int I.q1], .tup [.int I.p2, .int I.q2]]), some (.lst (L.map coD)), some (.lst (U.map coD)), some (.int j), none, none, none, none, none, none, none] ∧ NoS I b j ∧ m = 1004 - j) ⟨1004, rfl, 0, rfl, fun j hj => by omega, rfl⟩ ?_
    rintro m γ' _ ⟨rfl, j, rfl, no, rfl⟩
    obtain ⟨sj, hj⟩ := no.sm hok sz.t1 sz.t2 b2 b36
    walk_at "w"
    refine ⟨b, j, rfl, b2, b36, by omega, ?_⟩
    walk_at "w"
    refine ⟨I, b ^ j, rfl, hok, sz.s1, sz.s2, sz.t1, sz.t2, sj.mono (by decide), P1 j, fun hno => ?_, fun hin => ?_⟩
    · walk_at "w"
      refine ⟨1004 - (j + 1), by omega, j + 1, rfl, fun i hi => ?_, rfl⟩
      rcases Nat.lt_or_ge i j with c | c
      · exact no i c
      · obtain rfl : i = j := by omega
        exact hno
    · walk_at "w"
      refine ⟨b, j, rfl, b2, b36, by omega, ?_⟩
      walk_at "w"
      refine ⟨I, b ^ j, rfl, hok, sz.s1, sz.s2, sz.t1, sz.t2, sj.mono (by decide), P1 j, fun hno => absurd hin (hno _), fun _ => ?_⟩
      walk_at "w"
      have s1 : Sm 1 1 := by decide
      have sl : Sm 2900 (lwM I.p1 I.q1 (b ^ j)) := (Sm.add (a := 2011) ((Sm.mul sz.s1 sj).div (by have : 1 ≤ I.q1 := hok.q1; omega)) (s1.mono (by decide))).mono (by decide)
      have lm := (in_iff hok (P1 j)).mp hin
      have h2' := h2 I (min (max (lwM I.p1 I.q1 (b ^ j)) 0) (moM I.p2 I.q2 (b ^ j)))
      have eM : (if moM I.p2 I.q2 (b ^ j) < (if 0 > lwM I.p1 I.q1 (b ^ j) then 0 else lwM I.p1 I.q1 (b ^ j)) then moM I.p2 I.q2 (b ^ j) else (if 0 > lwM I.p1 I.q1 (b ^ j) then 0 else lwM I.p1 I.q1 (b ^ j))) = min (max (lwM I.p1 I.q1 (b ^ j)) 0) (moM I.p2 I.q2 (b ^ j)) := by
        generalize lwM I.p1 I.q1 (b ^ j) = A
        generalize moM I.p2 I.q2 (b ^ j) = B
        split <;> split <;> omega
      simp only [eM]
      have inm : InI I (min (max (lwM I.p1 I.q1 (b ^ j)) 0) (moM I.p2 I.q2 (b ^ j))) (b ^ j) := (in_iff hok (P1 j)).mpr (by omega)
      have sm : Sm 2900 (min (max (lwM I.p1 I.q1 (b ^ j)) 0) (moM I.p2 I.q2 (b ^ j))) := by
        rcases Int.lt_or_le (lwM I.p1 I.q1 (b ^ j)) 0 with z | z
        · exact sm_between sl ((show Sm 1 0 by decide).mono (by decide)) (by omega) (by omega)
        · rw [show min (max (lwM I.p1 I.q1 (b ^ j)) 0) (moM I.p2 I.q2 (b ^ j)) = lwM I.p1 I.q1 (b ^ j) by omega]; exact sl
      have h2'' := fun w => h2' w j sz iv no hin rfl sm
      clear h2' eM
      generalize min (max (lwM I.p1 I.q1 (b ^ j)) 0) (moM I.p2 I.q2 (b ^ j)) = m at *
      obtain ⟨w0, hw0⟩ := (iv m (b ^ j) (P1 j)).mpr inm
      refine mf_list (fun _ => true) (stF (b ^ j) m) (L.map coD) (fun F z => by walk_at "w"; exact z) (by rw [List.length_map]; exact Ll) (fun d hd _ => by obtain ⟨e, _, rfl⟩ := List.mem_map.mp hd; rfl) ?_ ?_
      · intro i d' pp acc P1' Q hd hpp hP hQ
        obtain ⟨e, he, rfl⟩ := List.mem_map.mp (List.mem_of_getElem? hd)
        have e1 := lo e he
        simp only [coD]
        walk_at "w"
        refine ⟨b, j, rfl, b2, b36, by omega, ?_⟩
        walk_at "w"
        exact ⟨mul_ok sj e1.f (by decide), mul_ok sm e1.n (by decide), hP rfl⟩
      rw [stF_map]
      walk_at "w"
      refine ⟨by simp; exact List.length_pos_iff.mpr Ln, fun w hw le => ?_⟩
      obtain ⟨e, he, rfl⟩ := List.mem_map.mp hw
      obtain ⟨k1, k2⟩ := (C.ok (P1 j)).mp hw0
      refine fin_pure (h2'' _ ((C.ok (P1 j)).mpr ⟨fun d hd => ?_, fun c hc => ?_⟩) fun w' hw' => ?_)
      · have := le _ (List.mem_map.mpr ⟨d, hd, rfl⟩)
        omega
      · have := k1 e he
        have := k2 c hc
        omega
      · have := ((C.ok (P1 j)).mp hw').1 e he
        omega
def BaseD (b : D) : Prop := ∃ i : Int, b = .int i ∧ 2 ≤ i ∧ i ≤ 36
def Sx_check_base : DSx := fun ds M X => ∃ b, ds = [b] ∧ tyL b = true ∧ pureD b = true ∧ ¬ BaseD b ∧ X ⟨"InvalidNumber", b⟩ M
theorem okx_check_base {P : Program} {w : World} {K : PySem.W.Frag} {mg : Str → Option Value} {base : Heap} {C f : Addr} {fd : FuncData} (T : Txt K mg) (F : FunD K "check_base" "check_base" (defArgs s_check_base) (defBody s_check_base) (defScope s_check_base) [] [] f fd) (h_is_whole : CallOk P w K mg base C 1 "is_whole" 1 S_is_whole []) (he_InvalidNumber : ExK P w K mg base 1 "InvalidNumber") : FnOk P w K mg base (CXp P w) 3 f fd ["base"] (spX ⟨K, C⟩ 1 Sx_check_base) := by
  have nd := sc_check_base.nd
  refine fn_okX 1 1 F sc_check_base (fun cdv A outer s H E hr =>
      (qss_one (qs_if (QW.qt (qw_or (qt_not (qt_val (qc h_is_whole hr (by decide) (qa_cons (qv 0) qa_nil)))) (qw_or (qt_cmp c_lt (qv 0) qi) (qw_or1 (qt_cmp c_gt (qv 0) qi)))))
        (qss_one (qs_raise (c := "InvalidNumber") he_InvalidNumber hr (by decide) (qa_cons (qv 0) qa_nil)))
        qss_nil))) ?_
  rintro ds M Xd - ⟨b, rfl, ht, hp, hn, hX⟩
  have fin : finX M Xd ⟨"InvalidNumber", b⟩ M := finX_pure hX hp
  walk_at "w"
  refine ⟨b, rfl, ht, ?_⟩
  walk_at "w"
  refine ⟨fun _ => fin, fun ib => ?_⟩
  cases b with
  | int i =>
    walk_at "w"
    exact ⟨fun _ => fin, fun z => ⟨fun _ => fin, fun z2 => hn ⟨i, rfl, by omega, by omega⟩⟩⟩
  | _ => cases ib
def Sx_pieces_recipe : DSx := fun ds M X => ∃ d b, ds = [d, b] ∧ ((BadPs M d ∧ X ⟨"InvalidList", d⟩ M) ∨ (∃ P : List Pc, d = .lst (P.map pcD) ∧ (∀ p ∈ P, PcOk p) ∧ P ≠ [] ∧ P.length ≤ 12 ∧ tyL b = true ∧ pureD b = true ∧ ¬ BaseD b ∧ X ⟨"InvalidNumber", b⟩ M))
theorem okx_pieces_recipe {P : Program} {w : World} {K : PySem.W.Frag} {mg : Str → Option Value} {base : Heap} {C f : Addr} {fd : FuncData} (T : Txt K mg) (F : FunD K "pieces_recipe" "pieces_recipe" (defArgs s_pieces_recipe) (defBody s_pieces_recipe) (defScope s_pieces_recipe) [] [("base", .int (2))] f fd) (hx_pieces_slopes : CallX P w K mg base C 11 "pieces_slopes" 1 S_pieces_slopes Sx_pieces_slopes []) (hx_check_base : CallX P w K mg base C 3 "check_base" 1 S_check_base Sx_check_base []) : FnOk P w K mg base (CXp P w) 12 f fd ["pieces", "base"] (spX ⟨K, C⟩ 2 Sx_pieces_recipe) := by
  have nd := sc_pieces_recipe.nd
  refine fn_okX 13 2 F sc_pieces_recipe (fun cdv A outer s H E hr =>
      (qss_cons (qs_setX (i := 2) nd (qxc hx_pieces_slopes hr (by decide) (QA.x (qa_cons (qv 0) qa_nil))))
      (qss_cons (qs_exprX (qxc hx_check_base hr (by decide) (QA.x (qa_cons (qv 1) qa_nil))))
      qss_never))) ?_
  rintro ds M Xd - ⟨d, b, rfl, ⟨hb, hX⟩ | ⟨P, rfl, ok, ne, len, tb, pb, nb, hX⟩⟩
  · have fin : finX M Xd ⟨"InvalidList", d⟩ M := finX_to M Sub.refl (fun _ h => h) hb.fld hX
    walk_at "w"
    exact .inr ⟨d, rfl, hb, fin⟩
  have fin : finX M Xd ⟨"InvalidNumber", b⟩ M := finX_pure hX pb
  walk_at "w"
  refine .inl ⟨P, rfl, ok, ne, len, fun no => ?_, fun al => ?_, fun I sz iv => ?_⟩
  all_goals walk_at "w"
  all_goals exact .inr ⟨b, rfl, tb, pb, nb, fin⟩
abbrev N_is_recipe : List Str := ["value", "part"]
theorem sc_is_recipe : FnScope N_is_recipe ["value"] (defScope s_is_recipe) := ⟨rfl, rfl, rfl, by decide +kernel, rfl, by decide +kernel, by decide +kernel⟩
def natD : D → Bool
  | .int k => decide (0 ≤ k)
  | _ => false
def isRec : D → Bool
  | .tup l => (match l with
    | [a, b, c] => isIntD a && (isIntD b && natD c)
    | _ => false)
  | _ => false
structure RecOk (d : D) : Prop where
  ty : tyL d = true
  pu : pureD d = true
  el : ∀ l, d = .tup l → (∀ e ∈ l, tyL e = true ∧ pureD e = true) ∧ cmpL 63 l = true ∧ l.length < 1000
def S_is_recipe : DSp := fun ds M R _ => ∃ d, ds = [d] ∧ RecOk d ∧ R (.bl (isRec d)) M
theorem cmpL_filter {n : Nat} (c : D → Bool) : ∀ {ds : List D}, cmpL n ds = true → cmpL n (ds.filter c) = true
  | [], _ => rfl
  | d :: ds, h => by
    unfold cmpL at h
    obtain ⟨a, b⟩ := He.ba h
    rw [List.filter_cons]
    split
    · unfold cmpL
      rw [a, cmpL_filter c b]; rfl
    · exact cmpL_filter c b
theorem isRec_no {l : List D} (h : l.length ≠ 3) : isRec (.tup l) = false := by
  match l, h with
  | [], _ => rfl
  | [_], _ => rfl
  | [_, _], _ => rfl
  | [_, _, _], h => exact absurd rfl h
  | _ :: _ :: _ :: _ :: _, _ => unfold isRec; rfl
theorem ok_is_recipe {P : Program} {w : World} {K : PySem.W.Frag} {mg : Str → Option Value} {base : Heap} {C f : Addr} {fd : FuncData} (T : Txt K mg) (F : FunD K "is_recipe" "is_recipe" (defArgs s_is_recipe) (defBody s_is_recipe) (defScope s_is_recipe) [] [] f fd) (h_isL : IsiF K mg C) (h_is_whole : CallOk P w K mg base C 1 "is_whole" 1 S_is_whole []) : FnOk P w K mg base CX0 2 f fd ["value"] (spD ⟨K, C⟩ 1 S_is_recipe) := by
  have nd := sc_is_recipe.nd
  refine fn_ok 2 1 F sc_is_recipe (fun cdv A outer s H E hr =>
      (qss_cons (qs_if (QW.qt (qw_or (qt_not (qt_val (q_isiL .tup h_isL (qv 0) rfl T.b_isinstance bb_isinstance rfl T.b_tuple bb_tuple))) (qw_or1 (qt_cmp (c_ne hr) (q_cb b_len rfl T.b_len bb_len (qa_cons (qv 0) qa_nil)) qi))))
        (qss_one (qs_ret qb))
        qss_nil)
      (qss_one (qs_ret (q_and (q_cmp (c_eq hr) (q_lc (own := [("part", 1)]) nd (qi_tup (qv 0)) (blkOk_by (own := [("part", 1)]) (N := N_is_recipe) (sc := defScope s_is_recipe) (by decide +kernel)) (fun _ _ _ _ _ => (qgw_name (i := 1) nd)) (fun _ _ _ _ _ => (qts_one (qt_not (qt_val (qc h_is_whole hr (by decide) (qa_cons (qv 1) qa_nil)))))) (fun _ _ _ _ _ => (qv 1))) (q_lst qa_nil)) (q_one (q_cmp c_ge (q_ixC 2 (qv 0)) qi))))))) ?_
  rintro ds M R - ⟨d, rfl, ok, hR⟩
  have ty := ok.ty
  cases d with
  | scr _ => cases ty
  | exn _ _ => cases ty
  | exn0 _ => cases ty
  | cls => cases ty
  | own _ => cases ty
  | tup l =>
    obtain ⟨el, cl, ll⟩ := ok.el l rfl
    walk_at "w"
    refine ⟨fun h3 => ?_, fun h3 => ?_⟩
    · rw [isRec_no (by omega)] at hR
      exact fin_pure hR
    · have l3 : l.length = 3 := by omega
      match l, l3 with
      | [a, b, c], _ =>
      have ta := el a (by simp)
      have tb := el b (by simp)
      have tc := el c (by simp)
      refine mf_tup (fun e => !isIntD e) (fun d => d) [a, b, c] (fun F z => by walk_at "w"; exact z) (show 3 < sizeLine by decide) (fun e he _ => (el e he).2) ?_ ?_
      · intro j e pp acc P Q hd hpp hP hQ
        have he : e ∈ [a, b, c] := List.mem_of_getElem? hd
        walk_at "w"
        refine ⟨e, rfl, (el e he).1, ?_⟩
        cases hi : isIntD e with
        | true => walk_at "w"; exact hQ (by rw [hi]; rfl)
        | false => walk_at "w"; exact hP (by rw [hi]; rfl)
      rw [List.map_id']
      have no : (isIntD a && (isIntD b && isIntD c)) = false → isRec (.tup [a, b, c]) = false := fun h => by
        show (isIntD a && (isIntD b && natD c)) = false
        cases ia : isIntD a with
        | false => rfl
        | true =>
          cases ib : isIntD b with
          | false => rfl
          | true =>
            rw [ia, ib] at h
            cases c with
            | int _ => cases h
            | _ => rfl
      have ff : ([a, b, c].filter fun e => !isIntD e) = [] ↔ (isIntD a && (isIntD b && isIntD c)) = true := by
        cases ia : isIntD a <;> cases ib : isIntD b <;> cases ic : isIntD c <;> simp [List.filter_cons, ia, ib, ic]
      refine eqG_lstN (show cmpD 64 (.lst _) = true from cmpL_filter _ cl) (fun e => ?_) (fun e => ?_)
      · walk_at "w"
        have h := ff.mp e
        obtain ⟨ia, h⟩ := He.ba h
        obtain ⟨ib, ic⟩ := He.ba h
        cases c with
        | int k =>
          walk_at "w"
          have : isRec (.tup [a, b, .int k]) = decide (0 ≤ k) := by show (isIntD a && (isIntD b && decide (0 ≤ k))) = _; rw [ia, ib]; rfl
          rw [this] at hR
          exact fin_pure hR
        | _ => cases ic
      · walk_at "w"
        rw [no (by cases z : (isIntD a && (isIntD b && isIntD c)) with
          | false => rfl
          | true => exact absurd (ff.mpr z) e)] at hR
        exact fin_pure hR
  | _ => walk_at "w"; exact fin_pure hR
abbrev N_check_recipe : List Str := ["value"]
theorem sc_check_recipe : FnScope N_check_recipe ["value"] (defScope s_check_recipe) := ⟨rfl, rfl, rfl, by decide +kernel, rfl, by decide +kernel, by decide +kernel⟩
def S_check_recipe : DSp := fun ds M R _ => ∃ (m w k : Int), ds = [.tup [.int m, .int w, .int k]] ∧ 0 ≤ k ∧ R .non M
theorem rec_ok (m w k : Int) : RecOk (.tup [.int m, .int w, .int k]) := ⟨rfl, rfl, fun l e => by cases e; exact ⟨fun e he => by simp at he; rcases he with rfl | rfl | rfl <;> exact ⟨rfl, rfl⟩, rfl, (show 3 < 1000 by decide)⟩⟩
theorem ok_check_recipe {P : Program} {w : World} {K : PySem.W.Frag} {mg : Str → Option Value} {base : Heap} {C f : Addr} {fd : FuncData} (T : Txt K mg) (F : FunD K "check_recipe" "check_recipe" (defArgs s_check_recipe) (defBody s_check_recipe) (defScope s_check_recipe) [] [] f fd) (h_is_recipe : CallOk P w K mg base C 2 "is_recipe" 1 S_is_recipe []) : FnOk P w K mg base CX0 3 f fd ["value"] (spD ⟨K, C⟩ 1 S_check_recipe) := by
  have nd := sc_check_recipe.nd
  refine fn_ok 1 1 F sc_check_recipe (fun cdv A outer s H E hr =>
      (qss_one (qs_if (qt_not (qt_val (qc h_is_recipe hr (by decide) (qa_cons (qv 0) qa_nil))))
        (qss_one qs_never)
        qss_nil))) ?_
  rintro ds M R - ⟨m, w, k, rfl, hk, hR⟩
  walk_at "w"
  refine ⟨_, rfl, rec_ok m w k, ?_⟩
  rw [show isRec (.tup [.int m, .int w, .int k]) = true by show (true && true && decide (0 ≤ k)) = true; rw [decide_eq_true hk]; rfl]
  walk_at "w"
  exact fin_pure hR
abbrev N_recipe_line : List Str := ["recipe", "base", "multiplier", "start", "shift"]
theorem sc_recipe_line : FnScope N_recipe_line ["recipe", "base"] (defScope s_recipe_line) := ⟨rfl, rfl, rfl, by decide +kernel, rfl, by decide +kernel, by decide +kernel⟩
def S_recipe_line : DSp := fun ds M R _ => ∃ (m w : Int) (k : Nat) (b : Int), ds = [.tup [.int m, .int w, .int k], .int b] ∧ 2 ≤ b ∧ b ≤ 36 ∧ k ≤ 2000 ∧ R (.ln m w (b ^ k)) M
theorem ok_recipe_line {P : Program} {w : World} {K : PySem.W.Frag} {mg : Str → Option Value} {base : Heap} {C f : Addr} {fd : FuncData} (T : Txt K mg) (F : FunD K "recipe_line" "recipe_line" (defArgs s_recipe_line) (defBody s_recipe_line) (defScope s_recipe_line) [] [("base", .int (2))] f fd) (h_check_recipe : CallOk P w K mg base C 3 "check_recipe" 1 S_check_recipe []) (h_check_base : CallOk P w K mg base C 2 "check_base" 1 S_check_base []) (h_Line : LMk P w K mg base C 3) (h_power : CallOk P w K mg base C 1 "power" 2 S_power []) : FnOk P w K mg base CX0 5 f fd ["recipe", "base"] (spD ⟨K, C⟩ 2 S_recipe_line) := by
  have nd := sc_recipe_line.nd
  refine fn_ok 5 2 F sc_recipe_line (fun cdv A outer s H E hr =>
      (qss_cons (qs_expr (qc h_check_recipe hr (by decide) (qa_cons (qv 0) qa_nil)))
      (qss_cons (qs_expr (qc h_check_base hr (by decide) (qa_cons (qv 1) qa_nil)))
      (qss_cons (qs_asg (qv 0) (qg_tup (n := 3) (qgs_cons (qg_name (i := 2) nd) (qgs_cons (qg_name (i := 3) nd) (qgs_cons (qg_name (i := 4) nd) qgs_nil)))))
      (qss_one (qs_ret (q_line h_Line hr (by decide) (qa_cons (qv 2) (qa_cons (qv 3) (qa_cons (qc h_power hr (by decide) (qa_cons (qv 1) (qa_cons (qv 4) qa_nil))) qa_nil)))))))))) ?_
  rintro ds M R - ⟨m, w, k, b, rfl, b2, b36, hk, hR⟩
  walk_at "w"
  refine ⟨_, _, _, rfl, by omega, ?_⟩
  walk_at "w"
  refine ⟨b, rfl, b2, b36, ?_⟩
  walk_at "w"
  refine ⟨b, k, rfl, b2, b36, hk, ?_⟩
  walk_at "w"
  exact ⟨pow_one_le (by omega) k, fin_pure hR⟩
abbrev N_check_two : List Str := ["one", "other", "low", "high"]
theorem sc_check_two : FnScope N_check_two ["one", "other", "low", "high"] (defScope s_check_two) := ⟨rfl, rfl, rfl, by decide +kernel, rfl, by decide +kernel, by decide +kernel⟩
def S_check_two : DSp := fun ds M R _ => ∃ (x y : Tr) (l h : Int), ds = [trL x, trL y, .int l, .int h] ∧ l < h ∧ R .non M
theorem ok_check_two {P : Program} {w : World} {K : PySem.W.Frag} {mg : Str → Option Value} {base : Heap} {C f : Addr} {fd : FuncData} (T : Txt K mg) (F : FunD K "check_two" "check_two" (defArgs s_check_two) (defBody s_check_two) (defScope s_check_two) [] [] f fd) (h_check_line : CallOk P w K mg base C 1 "check_line" 1 S_check_line []) (h_check_range : CallOk P w K mg base C 2 "check_range" 2 S_check_range []) : FnOk P w K mg base CX0 3 f fd ["one", "other", "low", "high"] (spD ⟨K, C⟩ 4 S_check_two) := by
  have nd := sc_check_two.nd
  refine fn_ok 4 4 F sc_check_two (fun cdv A outer s H E hr =>
      (qss_cons (qs_expr (qc h_check_line hr (by decide) (qa_cons (qv 0) qa_nil)))
      (qss_cons (qs_expr (qc h_check_line hr (by decide) (qa_cons (qv 1) qa_nil)))
      (qss_one (qs_expr (qc h_check_range hr (by decide) (qa_cons (qv 2) (qa_cons (qv 3) qa_nil)))))))) ?_
  rintro ds M R - ⟨x, y, l, h, rfl, hl, hR⟩
  walk_at "w"
  refine ⟨x, rfl, ?_⟩
  walk_at "w"
  refine ⟨y, rfl, ?_⟩
  walk_at "w"
  exact ⟨l, h, rfl, hl, fin_pure hR⟩
abbrev N_follows : List Str := ["line", "low", "high", "times", "plus", "over"]
theorem sc_follows : FnScope N_follows ["line", "low", "high", "times", "plus", "over"] (defScope s_follows) := ⟨rfl, rfl, rfl, by decide +kernel, rfl, by decide +kernel, by decide +kernel⟩
def S_follows : DSp := fun ds M R _ => ∃ (x y : Tr) (l h : Int), ds = [trL x, .int l, .int h, .int y.1, .int y.2.1, .int y.2.2] ∧ DOk x l h ∧ 1 ≤ y.2.2 ∧ Sm 2900 y.1 ∧ Sm 2900 y.2.2 ∧ ∀ b : Bool, (b = true ↔ Agr x y l h) → R (.bl b) M
theorem ok_follows {P : Program} {w : World} {K : PySem.W.Frag} {mg : Str → Option Value} {base : Heap} {C f : Addr} {fd : FuncData} (T : Txt K mg) (F : FunD K "follows" "follows" (defArgs s_follows) (defBody s_follows) (defScope s_follows) [] [] f fd) (h_highest : CallOk P w K mg base C 3 "highest" 5 S_highest []) : FnOk P w K mg base CX0 4 f fd ["line", "low", "high", "times", "plus", "over"] (spD ⟨K, C⟩ 6 S_follows) := by
  have nd := sc_follows.nd
  refine fn_ok 6 6 F sc_follows (fun cdv A outer s H E hr =>
      (qss_cons (qs_if (qt_cmp c_gt (qc h_highest hr (by decide) (qa_cons (qv 0) (qa_cons (qv 1) (qa_cons (qv 2) (qa_cons (q_neg (qv 3)) (qa_cons (qv 5) qa_nil)))))) (qv 4))
        (qss_one (qs_ret qb))
        qss_nil)
      (qss_one (qs_ret (q_cmp c_lt (qv 4) (q_sub (qv 5) (qc h_highest hr (by decide) (qa_cons (qv 0) (qa_cons (qv 1) (qa_cons (qv 2) (qa_cons (qv 3) (qa_cons (q_neg (qv 5)) qa_nil)))))))))))) ?_
  rintro ds M R - ⟨x, y, l, h, rfl, d, o1, s1, s2, hR⟩
  have ag := agr_iff (x := x) (y := y) d.lh o1
  walk_at "w"
  refine ⟨x, l, h, _, _, rfl, d, s1.neg, s2, ?_⟩
  walk_at "w"
  refine ⟨fun c => fin_pure (hR false ⟨fun z => (nomatch z), fun z => absurd (ag.mp z).1 (by show ¬ maxI _ _ _ ≤ _; omega)⟩), fun c => ?_⟩
  refine ⟨x, l, h, _, _, rfl, d, s1, s2.neg, ?_⟩
  walk_at "w"
  refine fin_pure (hR _ ?_)
  rw [decide_eq_true_eq]
  exact ⟨fun z => ag.mpr ⟨by show maxI _ _ _ ≤ _; omega, z⟩, fun z => (ag.mp z).2⟩
abbrev N_agrees : List Str := ["one", "other", "low", "high"]
theorem sc_agrees : FnScope N_agrees ["one", "other", "low", "high"] (defScope s_agrees) := ⟨rfl, rfl, rfl, by decide +kernel, rfl, by decide +kernel, by decide +kernel⟩
def S_agrees : DSp := fun ds M R _ => ∃ (x y : Tr) (l h : Int), ds = [trL x, trL y, .int l, .int h] ∧ l < h ∧ DOk x l h ∧ 1 ≤ y.2.2 ∧ Sm 2900 y.1 ∧ Sm 2900 y.2.2 ∧ ∀ b : Bool, (b = true ↔ Agr x y l h) → R (.bl b) M
theorem ok_agrees {P : Program} {w : World} {K : PySem.W.Frag} {mg : Str → Option Value} {base : Heap} {C f : Addr} {fd : FuncData} (T : Txt K mg) (F : FunD K "agrees" "agrees" (defArgs s_agrees) (defBody s_agrees) (defScope s_agrees) [] [] f fd) (h_check_two : CallOk P w K mg base C 3 "check_two" 4 S_check_two []) (h_follows : CallOk P w K mg base C 4 "follows" 6 S_follows []) (hp_over : POk P w K mg base C 1 "over" S_Line_over) (hp_plus : POk P w K mg base C 1 "plus" S_Line_plus) (hp_times : POk P w K mg base C 1 "times" S_Line_times) : FnOk P w K mg base CX0 5 f fd ["one", "other", "low", "high"] (spD ⟨K, C⟩ 4 S_agrees) := by
  have nd := sc_agrees.nd
  refine fn_ok 4 4 F sc_agrees (fun cdv A outer s H E hr =>
      (qss_cons (qs_expr (qc h_check_two hr (by decide) (qa_cons (qv 0) (qa_cons (qv 1) (qa_cons (qv 2) (qa_cons (qv 3) qa_nil))))))
      (qss_one (qs_ret (qc h_follows hr (by decide) (qa_cons (qv 0) (qa_cons (qv 2) (qa_cons (qv 3) (qa_cons (q_prop hp_times hr (by decide) (qv 1)) (qa_cons (q_prop hp_plus hr (by decide) (qv 1)) (qa_cons (q_prop hp_over hr (by decide) (qv 1)) qa_nil))))))))))) ?_
  rintro ds M R - ⟨x, y, l, h, rfl, hl, d, o1, s1, s2, hR⟩
  walk_at "w"
  refine ⟨x, y, l, h, rfl, hl, ?_⟩
  simp only [trL]
  walk_at "w"
  refine ⟨_, _, _, rfl, ?_⟩
  walk_at "w"
  refine ⟨_, _, _, rfl, ?_⟩
  walk_at "w"
  refine ⟨_, _, _, rfl, ?_⟩
  walk_at "w"
  exact ⟨x, y, l, h, rfl, d, o1, s1, s2, fun b hb => fin_pure (hR b hb)⟩
abbrev N_first_apart : List Str := ["one", "other", "low", "high", "good", "bad", "middle"]
theorem sc_first_apart : FnScope N_first_apart ["one", "other", "low", "high"] (defScope s_first_apart) := ⟨rfl, rfl, rfl, by decide +kernel, rfl, by decide +kernel, by decide +kernel⟩
structure FstA (x y : Tr) (l h n : Int) : Prop where
  l0 : l ≤ n
  h0 : n ≤ h
  ne : vl x n ≠ vl y n
  eq : ∀ m, l ≤ m → m < n → vl x m = vl y m
def S_first_apart : DSp := fun ds M R _ => ∃ (x y : Tr) (l h : Int), ds = [trL x, trL y, .int l, .int h] ∧ l < h ∧ DOk x l h ∧ 1 ≤ y.2.2 ∧ Sm 2900 y.1 ∧ Sm 2900 y.2.2 ∧ (Agr x y l h → R .non M) ∧ ∀ n, FstA x y l h n → R (.int n) M
theorem ok_first_apart {P : Program} {w : World} {K : PySem.W.Frag} {mg : Str → Option Value} {base : Heap} {C f : Addr} {fd : FuncData} (T : Txt K mg) (F : FunD K "first_apart" "first_apart" (defArgs s_first_apart) (defBody s_first_apart) (defScope s_first_apart) [] [] f fd) (h_agrees : CallOk P w K mg base C 5 "agrees" 4 S_agrees []) (h_callO : COk P w K mg base C 3 2 S_Line___call__) : FnOk P w K mg base CX0 6 f fd ["one", "other", "low", "high"] (spD ⟨K, C⟩ 4 S_first_apart) := by
  have nd := sc_first_apart.nd
  refine fn_ok 7 4 F sc_first_apart (fun cdv A outer s H E hr =>
      (qss_cons (qs_if (qt_val (qc h_agrees hr (by decide) (qa_cons (qv 0) (qa_cons (qv 1) (qa_cons (qv 2) (qa_cons (qv 3) qa_nil))))))
        (qss_one (qs_ret qn))
        qss_nil)
      (qss_cons (qs_if (qt_cmp (c_ne hr) (q_callO h_callO hr (by decide) (qv 0) (qa_cons (qv 2) qa_nil)) (q_callO h_callO hr (by decide) (qv 1) (qa_cons (qv 2) qa_nil)))
        (qss_one (qs_ret (qv 2)))
        qss_nil)
      (qss_cons (qs_par (i := 4) (j := 5) nd (qa_cons (qv 2) (qa_cons (qv 3) qa_nil)))
      (qss_cons (qs_while (qt_cmp c_gt (q_sub (qv 5) (qv 4)) qi)
        (qss_cons (qs_set (i := 6) nd (q_div (q_add (qv 4) (qv 5)) qi))
        (qss_one (qs_if (qt_val (qc h_agrees hr (by decide) (qa_cons (qv 0) (qa_cons (qv 1) (qa_cons (qv 2) (qa_cons (qv 6) qa_nil))))))
          (qss_one (qs_set (i := 4) nd (qv 6)))
          (qss_one (qs_set (i := 5) nd (qv 6)))))))
      (qss_one (qs_ret (qv 5)))))))) ?_
  rintro ds M R - ⟨x, y, l, h, rfl, hl, d, o1, s1, s2, hN, hR⟩
  have cx : ∀ i, CD i x.2.2 := fun i => cd_ok (by have := d.o1; omega) d.so (by decide)
  have cy : ∀ i, CD i y.2.2 := fun i => cd_ok (by omega) s2 (by decide)
  walk_at "w"
  refine ⟨x, y, l, h, rfl, hl, d, o1, s1, s2, fun b hb => ?_⟩
  cases b with
  | true =>
    walk_at "w"
    exact fin_pure (hN (hb.mp rfl))
  | false =>
    have na : ¬ Agr x y l h := fun z => absurd (hb.mpr z) (by decide)
    simp only [trL]
    walk_at "w"
    refine ⟨_, _, _, _, rfl, mul_ok d.st d.sl (by decide), cx _, ?_⟩
    walk_at "w"
    refine ⟨_, _, _, _, rfl, mul_ok s1 d.sl (by decide), cy _, ?_⟩
    walk_at "w"
    refine ⟨fun ne => fin_pure (hR l ⟨Int.le_refl _, by omega, ne, fun m a b => by omega⟩), fun e => ?_⟩
    have e : vl x l = vl y l := e
    refine vWhile_of (fun m γ M' => M' = M ∧ ∃ g b y6, γ = [some (.ln x.1 x.2.1 x.2.2), some (.ln y.1 y.2.1 y.2.2), some (.int l), some (.int h), some (.int g), some (.int b), y6] ∧ l ≤ g ∧ g < b ∧ b ≤ h ∧ Agr x y l g ∧ ¬ Agr x y l b ∧ m = (b - g).toNat) ⟨_, rfl, l, h, _, rfl, Int.le_refl _, hl, Int.le_refl _, fun n a b => by rw [show n = l by omega]; exact e, na, rfl⟩ ?_
    rintro m γ' _ ⟨rfl, g, b, y6, rfl, lg, gb, bh, ag, nb, rfl⟩
    walk_at "w"
    refine ⟨fun c => ⟨cdS (by decide) (by decide), ?_⟩, fun c => ?_⟩
    · have m1 : g < (g + b) / 2 := by omega
      have m2 : (g + b) / 2 < b := by omega
      refine ⟨x, y, l, _, rfl, by omega, ⟨d.o1, d.st, d.sp, d.so, d.sl, sm_between d.sl d.sh (by omega) (by omega), by omega⟩, o1, s1, s2, fun b2 hb2 => ?_⟩
      cases b2 with
      | true =>
        walk_at "w"
        exact ⟨_, by omega, _, _, _, rfl, by omega, m2, bh, hb2.mp rfl, nb, rfl⟩
      | false =>
        walk_at "w"
        exact ⟨_, by omega, _, _, _, rfl, lg, m1, by omega, ag, fun z => absurd (hb2.mpr z) (by decide), rfl⟩
    · refine fin_pure (hR b ⟨by omega, bh, fun z => nb fun n n1 n2 => ?_, fun n n1 n2 => ag n n1 (by omega)⟩)
      by_cases w : n ≤ g
      · exact ag n n1 w
      · rw [show n = b by omega]; exact z
abbrev N_pieces_fault : List Str := ["pieces", "recipe", "base", "other", "found", "line", "low", "high", "number"]
theorem sc_pieces_fault : FnScope N_pieces_fault ["pieces", "recipe", "base"] (defScope s_pieces_fault) := ⟨rfl, rfl, rfl, by decide +kernel, rfl, by decide +kernel, by decide +kernel⟩
def Wr (P : List Pc) (y : Tr) (n : Int) : Prop := ∃ p ∈ P, p.2.1 ≤ n ∧ n ≤ p.2.2 ∧ vl p.1 n ≠ vl y n
def S_pieces_fault : DSp := fun ds M R _ => ∃ (P : List Pc) (m s : Int) (k : Nat) (b : Int), ds = [.lst (P.map pcD), .tup [.int m, .int s, .int k], .int b] ∧ (∀ p ∈ P, DOk p.1 p.2.1 p.2.2) ∧ P ≠ [] ∧ P.length ≤ 12 ∧ 2 ≤ b ∧ b ≤ 36 ∧ k ≤ 240 ∧ Sm 2900 m ∧ ((∀ n, ¬ Wr P (m, s, b ^ k) n) → R .non M) ∧ ∀ n, Wr P (m, s, b ^ k) n → (∀ i, Wr P (m, s, b ^ k) i → n ≤ i) → R (.int n) M
theorem ok_pieces_fault {P : Program} {w : World} {K : PySem.W.Frag} {mg : Str → Option Value} {base : Heap} {C f : Addr} {fd : FuncData} (T : Txt K mg) (F : FunD K "pieces_fault" "pieces_fault" (defArgs s_pieces_fault) (defBody s_pieces_fault) (defScope s_pieces_fault) [] [("base", .int (2))] f fd) (h_check_pieces : CallOk P w K mg base C 3 "check_pieces" 1 S_check_pieces []) (h_check_recipe : CallOk P w K mg base C 3 "check_recipe" 1 S_check_recipe []) (hk_recipe_line_1_base : KCallOk P w K mg base C 5 "recipe_line" 2 S_recipe_line 1 ["base"] (pickL [0, 1])) (h_first_apart : CallOk P w K mg base C 6 "first_apart" 4 S_first_apart []) (h_callO : COk P w K mg base C 3 2 S_Line___call__) : FnOk P w K mg base CX0 7 f fd ["pieces", "recipe", "base"] (spD ⟨K, C⟩ 3 S_pieces_fault) := by
  have nd := sc_pieces_fault.nd
  refine fn_ok 9 3 F sc_pieces_fault (fun cdv A outer s H E hr =>
      (qss_cons (qs_expr (qc h_check_pieces hr (by decide) (qa_cons (qv 0) qa_nil)))
      (qss_cons (qs_expr (qc h_check_recipe hr (by decide) (qa_cons (qv 1) qa_nil)))
      (qss_cons (qs_set (i := 3) nd (qck hk_recipe_line_1_base hr (by decide) (qa_cons (qv 1) qa_nil) (qk_cons (qv 2) qk_nil)))
      (qss_cons (qs_set (i := 4) nd (q_lstO qa_nil))
      (qss_cons (qs_for (qi_list (qv 0)) (qg_tup (n := 3) (qgs_cons (qg_name (i := 5) nd) (qgs_cons (qg_name (i := 6) nd) (qgs_cons (qg_name (i := 7) nd) qgs_nil))))
        (qss_one (qs_if (qt_cmp c_lt (qv 6) (qv 7))
          (qss_cons (qs_set (i := 8) nd (qc h_first_apart hr (by decide) (qa_cons (qv 5) (qa_cons (qv 3) (qa_cons (qv 6) (qa_cons (qv 7) qa_nil))))))
          (qss_one (qs_augL (i := 4) nd (q_rep (q_lst (qa_cons (qv 8) qa_nil)) (q_ct b_int rfl T.b_int bb_int (qa_cons (q_notN (qv 8)) qa_nil))))))
          (qss_one (qs_augL (i := 4) nd (q_rep (q_lst (qa_cons (qv 6) qa_nil)) (q_ct b_int rfl T.b_int bb_int (qa_cons (q_cmp (c_ne hr) (q_callO h_callO hr (by decide) (qv 5) (qa_cons (qv 6) qa_nil)) (q_callO h_callO hr (by decide) (qv 3) (qa_cons (qv 6) qa_nil))) qa_nil))))))))
      (qss_one (qs_ret (q_ite (qt_cmp (c_ne hr) (qv 4) (q_lst qa_nil)) (q_cb b_min1 rfl T.b_min bb_min (qa_cons (qv 4) qa_nil)) qn))))))))) ?_
  rintro ds M R - ⟨P, m, s, k, b, rfl, ok, ne, len, b2, b36, hk, sm, h0, h1⟩
  walk_at "w"
  refine ⟨P, rfl, ne, len, fun p hp => (ok p hp).lh, ?_⟩
  walk_at "w"
  refine ⟨m, s, k, rfl, by omega, ?_⟩
  walk_at "w"
  refine ⟨m, s, k, b, rfl, b2, b36, by omega, ?_⟩
  walk_at "w"
  intro p0 hp0
  have hb := pow_one_le (b := b) (by omega) k
  have sS : Sm 2900 (b ^ k) := (sm_of (n := 1441) (by have := two_pos 1441; omega) (Int.lt_of_le_of_lt (base_pow (w := 6) (by omega) (show b ≤ 2 ^ 6 by omega) (show 6 * k ≤ 1440 by omega)) (by decide +kernel))).mono (by decide)
  generalize hS : b ^ k = S at *
  have tkl : ∀ {i : Nat} {p : Pc} {n : Int}, P[i]? = some p → (Wr (P.take (i + 1)) (m, s, S) n ↔ Wr (P.take i) (m, s, S) n ∨ (p.2.1 ≤ n ∧ n ≤ p.2.2 ∧ vl p.1 n ≠ vl (m, s, S) n)) := by
    intro i p n e
    rw [List.take_succ, e]
    constructor
    · rintro ⟨q, hq, r⟩
      rcases List.mem_append.mp hq with hq | hq
      · exact .inl ⟨q, hq, r⟩
      · simp at hq
        subst hq
        exact .inr r
    · rintro (⟨q, hq, r⟩ | r)
      · exact ⟨q, List.mem_append_left _ hq, r⟩
      · exact ⟨p, List.mem_append_right _ (by simp), r⟩
  refine vfor_list (P.map pcD) (fun F h => by walk_at "w"; exact h) (fun i γ M' => ∃ ns : List Int, M' = mset M p0 (.lst (ns.map .int)) ∧ ns.length ≤ i ∧ (∀ n ∈ ns, Wr (P.take i) (m, s, S) n) ∧ (∀ j, Wr (P.take i) (m, s, S) j → ∃ n ∈ ns, n ≤ j) ∧ ∃ y5 y6 y7 y8, γ = [some (.lst (P.map pcD)), some (.tup [.int m, .int s, .int k]), some (.int b), some (.ln m s S), some (.own p0), y5, y6, y7, y8]) ⟨[], rfl, by simp, by simp, by rintro j ⟨q, hq, _⟩; simp at hq, _, _, _, _, rfl⟩ ?_ ?_
  · rintro i d γ' _ ⟨ns, rfl, nl, a1, a2, y5, y6, y7, y8, rfl⟩ hd
    rw [List.getElem?_map] at hd
    cases ei : P[i]? with
    | none => rw [ei] at hd; cases hd
    | some p =>
    rw [ei] at hd
    cases hd
    have hp := List.mem_of_getElem? ei
    have dk := ok p hp
    have il : i < 12 := by have := (List.getElem?_eq_some_iff.mp ei).1; omega
    simp only [pcD, trL]
    walk_at "w"
    refine ⟨fun lt => ?_, fun ge => ?_⟩
    · refine ⟨p.1, (m, s, S), p.2.1, p.2.2, rfl, lt, dk, hb, sm, sS, fun ag => ?_, fun n F => ?_⟩
      · walk_at "w"
        simp only [if_false, Int.toNat_zero, List.replicate_zero, List.flatten_nil, List.append_nil]
        repeat (first | refine And.intro (by decide) ?_ | refine And.intro rfl ?_)
        refine ⟨by rw [List.length_map]; exact Nat.le_trans (show ns.length + 0 ≤ 12 by omega) (by decide), ns, rfl, by omega, fun n hn => (tkl ei).mpr (.inl (a1 n hn)), fun j hj => ?_, _, _, _, _, rfl⟩
        rcases (tkl ei).mp hj with z | ⟨z1, z2, z3⟩
        · exact a2 j z
        · exact absurd (ag j z1 z2) z3
      · walk_at "w"
        simp only [if_true, show (1 : Int).toNat = 1 from rfl, List.replicate_succ, List.replicate_zero, List.flatten_cons, List.flatten_nil, List.append_nil]
        repeat (first | refine And.intro (by decide) ?_ | refine And.intro rfl ?_)
        refine ⟨by rw [List.length_map]; exact Nat.le_trans (show ns.length + 1 ≤ 13 by omega) (by decide), ns ++ [n], by rw [List.map_append]; rfl, by simp; omega, fun j hj => ?_, fun j hj => ?_, _, _, _, _, rfl⟩
        · rcases List.mem_append.mp hj with hj | hj
          · exact (tkl ei).mpr (.inl (a1 j hj))
          · simp at hj
            subst hj
            exact (tkl ei).mpr (.inr ⟨F.l0, F.h0, F.ne⟩)
        · rcases (tkl ei).mp hj with z | ⟨z1, z2, z3⟩
          · obtain ⟨q, hq, r⟩ := a2 j z
            exact ⟨q, List.mem_append_left _ hq, r⟩
          · refine ⟨n, by simp, ?_⟩
            rcases Int.lt_or_le j n with y | y
            · exact absurd (F.eq j z1 y) z3
            · exact y
    · have eq : p.2.1 = p.2.2 := by have := dk.lh; omega
      have sl := dk.sl
      refine ⟨p.1.1, p.1.2.1, p.1.2.2, p.2.1, rfl, mul_ok dk.st sl (by decide), cd_ok (by have := dk.o1; omega) dk.so (by decide), ?_⟩
      walk_at "w"
      refine ⟨m, s, S, p.2.1, rfl, mul_ok sm sl (by decide), cd_ok (by omega) sS (by decide), ?_⟩
      walk_at "w"
      by_cases ev : lnV p.1.1 p.1.2.1 p.1.2.2 p.2.1 = lnV m s S p.2.1
      · simp only [ev, not_true, if_false, Int.toNat_zero, List.replicate_zero, List.flatten_nil, List.append_nil]
        repeat (first | refine And.intro (by decide) ?_ | refine And.intro rfl ?_)
        refine ⟨by rw [List.length_map]; exact Nat.le_trans (show ns.length + 0 ≤ 12 by omega) (by decide), ns, rfl, by omega, fun n hn => (tkl ei).mpr (.inl (a1 n hn)), fun j hj => ?_, _, _, _, _, rfl⟩
        rcases (tkl ei).mp hj with z | ⟨z1, z2, z3⟩
        · exact a2 j z
        · obtain rfl : j = p.2.1 := by omega
          exact absurd ev z3
      · simp only [ev, not_false_eq_true, if_true, show (1 : Int).toNat = 1 from rfl, List.replicate_succ, List.replicate_zero, List.flatten_cons, List.flatten_nil, List.append_nil]
        repeat (first | refine And.intro (by decide) ?_ | refine And.intro rfl ?_)
        refine ⟨by rw [List.length_map]; exact Nat.le_trans (show ns.length + 1 ≤ 13 by omega) (by decide), ns ++ [p.2.1], by rw [List.map_append]; rfl, by simp; omega, fun j hj => ?_, fun j hj => ?_, _, _, _, _, rfl⟩
        · rcases List.mem_append.mp hj with hj | hj
          · exact (tkl ei).mpr (.inl (a1 j hj))
          · simp at hj
            subst hj
            exact (tkl ei).mpr (.inr ⟨Int.le_refl _, by omega, ev⟩)
        · rcases (tkl ei).mp hj with z | ⟨z1, z2, z3⟩
          · obtain ⟨q, hq, r⟩ := a2 j z
            exact ⟨q, List.mem_append_left _ hq, r⟩
          · exact ⟨p.2.1, by simp, z1⟩
  · rintro γ' _ ⟨ns, rfl, nl, a1, a2, y5, y6, y7, y8, rfl⟩
    rw [List.length_map, List.take_length] at a1 a2
    walk_at "w"
    refine eqG_none mset_same (show cmpL 63 _ = true from cmp_ints 63 _) (fun e => ?_) (fun e => ?_)
    · walk_at "w"
      have en : ns = [] := by cases ns with
        | nil => rfl
        | cons _ _ => cases e
      refine fin_drop hp0 (h0 fun j hj => ?_)
      obtain ⟨n, hn, _⟩ := a2 j hj
      rw [en] at hn
      cases hn
    · walk_at "w"
      have ei : intsOf (mset M p0 (.lst (ns.map .int))) (.own p0) = some ns := by
        unfold intsOf
        rw [seqI_own mset_same]
        exact intsD_map ns
      rw [ei]
      refine ⟨List.length_pos_iff.mpr fun z => e (by rw [z]; rfl), fun n hn hle => fin_drop hp0 (h1 n (a1 n hn) fun j hj => ?_)⟩
      obtain ⟨q, hq, r⟩ := a2 j hj
      have := hle q hq
      omega
def Sx_check_recipe : DSx := fun ds M X => ∃ d, ds = [d] ∧ RecOk d ∧ isRec d = false ∧ X ⟨"InvalidRecipe", d⟩ M
theorem okx_check_recipe {P : Program} {w : World} {K : PySem.W.Frag} {mg : Str → Option Value} {base : Heap} {C f : Addr} {fd : FuncData} (T : Txt K mg) (F : FunD K "check_recipe" "check_recipe" (defArgs s_check_recipe) (defBody s_check_recipe) (defScope s_check_recipe) [] [] f fd) (h_is_recipe : CallOk P w K mg base C 2 "is_recipe" 1 S_is_recipe []) (he_InvalidRecipe : ExK P w K mg base 1 "InvalidRecipe") : FnOk P w K mg base (CXp P w) 3 f fd ["value"] (spX ⟨K, C⟩ 1 Sx_check_recipe) := by
  have nd := sc_check_recipe.nd
  refine fn_okX 1 1 F sc_check_recipe (fun cdv A outer s H E hr =>
      (qss_one (qs_if (qt_not (qt_val (qc h_is_recipe hr (by decide) (qa_cons (qv 0) qa_nil))))
        (qss_one (qs_raise (c := "InvalidRecipe") he_InvalidRecipe hr (by decide) (qa_cons (qv 0) qa_nil)))
        qss_nil))) ?_
  rintro ds M Xd - ⟨d, rfl, ok, hr, hX⟩
  walk_at "w"
  refine ⟨_, rfl, ok, ?_⟩
  rw [hr]
  walk_at "w"
  exact finX_pure hX ok.pu
def Sx_recipe_line : DSx := fun ds M X => ∃ r s, ds = [r, s] ∧ RecOk r ∧ ((isRec r = false ∧ X ⟨"InvalidRecipe", r⟩ M) ∨ ((∃ m w k : Int, r = .tup [.int m, .int w, .int k] ∧ 0 ≤ k) ∧ tyL s = true ∧ pureD s = true ∧ ¬ BaseD s ∧ X ⟨"InvalidNumber", s⟩ M))
theorem okx_recipe_line {P : Program} {w : World} {K : PySem.W.Frag} {mg : Str → Option Value} {base : Heap} {C f : Addr} {fd : FuncData} (T : Txt K mg) (F : FunD K "recipe_line" "recipe_line" (defArgs s_recipe_line) (defBody s_recipe_line) (defScope s_recipe_line) [] [("base", .int (2))] f fd) (hx_check_recipe : CallX P w K mg base C 3 "check_recipe" 1 S_check_recipe Sx_check_recipe []) (hx_check_base : CallX P w K mg base C 3 "check_base" 1 S_check_base Sx_check_base []) : FnOk P w K mg base (CXp P w) 4 f fd ["recipe", "base"] (spX ⟨K, C⟩ 2 Sx_recipe_line) := by
  have nd := sc_recipe_line.nd
  refine fn_okX 5 2 F sc_recipe_line (fun cdv A outer s H E hr =>
      (qss_cons (qs_exprX (qxc hx_check_recipe hr (by decide) (QA.x (qa_cons (qv 0) qa_nil))))
      (qss_cons (qs_exprX (qxc hx_check_base hr (by decide) (QA.x (qa_cons (qv 1) qa_nil))))
      qss_never))) ?_
  rintro ds M Xd - ⟨r, s, rfl, ro, h⟩
  walk_at "w"
  rcases h with h | ⟨⟨m, w, k, rfl, hk⟩, ts, ps, h⟩
  · exact .inr ⟨r, rfl, ro, h.1, finX_pure h.2 ro.pu⟩
  refine .inl ⟨m, w, k, rfl, hk, ?_⟩
  walk_at "w"
  exact .inr ⟨s, rfl, ts, ps, h.1, finX_pure h.2 ps⟩
def Sx_pieces_fault : DSx := fun ds M X => ∃ d r b, ds = [d, r, b] ∧ ((BadPs M d ∧ X ⟨"InvalidList", d⟩ M) ∨ (∃ P : List Pc, d = .lst (P.map pcD) ∧ P ≠ [] ∧ P.length ≤ 12 ∧ (∀ p ∈ P, p.2.1 ≤ p.2.2) ∧ RecOk r ∧ ((isRec r = false ∧ X ⟨"InvalidRecipe", r⟩ M) ∨ ((∃ m w k : Int, r = .tup [.int m, .int w, .int k] ∧ 0 ≤ k) ∧ tyL b = true ∧ pureD b = true ∧ ¬ BaseD b ∧ X ⟨"InvalidNumber", b⟩ M))))
theorem okx_pieces_fault {P : Program} {w : World} {K : PySem.W.Frag} {mg : Str → Option Value} {base : Heap} {C f : Addr} {fd : FuncData} (T : Txt K mg) (F : FunD K "pieces_fault" "pieces_fault" (defArgs s_pieces_fault) (defBody s_pieces_fault) (defScope s_pieces_fault) [] [("base", .int (2))] f fd) (hx_check_pieces : CallX P w K mg base C 3 "check_pieces" 1 S_check_pieces Sx_check_pieces []) (hx_check_recipe : CallX P w K mg base C 3 "check_recipe" 1 S_check_recipe Sx_check_recipe []) (hkx_recipe_line_1_base : KCallX P w K mg base C 5 "recipe_line" 2 S_recipe_line Sx_recipe_line 1 ["base"] (pickL [0, 1])) : FnOk P w K mg base (CXp P w) 6 f fd ["pieces", "recipe", "base"] (spX ⟨K, C⟩ 3 Sx_pieces_fault) := by
  have nd := sc_pieces_fault.nd
  refine fn_okX 9 3 F sc_pieces_fault (fun cdv A outer s H E hr =>
      (qss_cons (qs_exprX (qxc hx_check_pieces hr (by decide) (QA.x (qa_cons (qv 0) qa_nil))))
      (qss_cons (qs_exprX (qxc hx_check_recipe hr (by decide) (QA.x (qa_cons (qv 1) qa_nil))))
      (qss_cons (qs_setX (i := 3) nd (qxck hkx_recipe_line_1_base hr (by decide) (QA.x (qa_cons (qv 1) qa_nil)) (QK.x (qk_cons (qv 2) qk_nil))))
      qss_never)))) ?_
  rintro ds M Xd - ⟨d, r, b, rfl, ⟨hb, hX⟩ | ⟨P, rfl, ne, len, ok, ro, h⟩⟩
  · have fin : finX M Xd ⟨"InvalidList", d⟩ M := finX_to M Sub.refl (fun _ h => h) hb.fld hX
    walk_at "w"
    exact .inr ⟨d, rfl, hb, fin⟩
  walk_at "w"
  refine .inl ⟨P, rfl, ne, len, ok, ?_⟩
  walk_at "w"
  rcases h with ⟨hr, hX⟩ | ⟨⟨m, w, k, rfl, hk⟩, tb, pb, nb, hX⟩
  · exact .inr ⟨r, rfl, ro, hr, finX_pure hX ro.pu⟩
  refine .inl ⟨m, w, k, rfl, hk, ?_⟩
  walk_at "w"
  exact .inr ⟨_, _, rfl, ro, .inr ⟨⟨m, w, k, rfl, hk⟩, tb, pb, nb, finX_pure hX pb⟩⟩
abbrev N__law_caught : List Str := ["_law_way", "_law_given", "_law_made", "_law_root", "_law_caught_here", "error"]
theorem sc__law_caught : FnScope N__law_caught ["_law_way", "_law_given", "_law_made", "_law_root"] (defScope s__law_caught) := ⟨rfl, rfl, rfl, by decide +kernel, rfl, by decide +kernel, by decide +kernel⟩
structure GdPs (P : List Pc) : Prop where
  ok : ∀ p ∈ P, PcOk p
  ne : P ≠ []
  len : P.length ≤ 12
def S__law_caught : DSp := fun ds M R _ => ∃ (w : Nat) (g c r : D), ds = [.int w, g, c, r] ∧ w ≤ 4 ∧ ((BadPs M g ∧ R (.exn "InvalidList" g) M) ∨ (∃ P, g = .lst (P.map pcD) ∧ GdPs P ∧
  (((∃ b : Int, c = .tup [.int 1, .int 0, .int 1] ∧ r = .int b ∧ 2 ≤ b ∧ b ≤ 36) ∧ R .non M) ∨ ((w = 3 ∨ (w = 4 ∧ c = .tup [.int 1, .int 0, .int 1])) ∧ tyL r = true ∧ pureD r = true ∧ ¬ BaseD r ∧ R (.exn "InvalidNumber" r) M) ∨ (w = 4 ∧ RecOk c ∧ isRec c = false ∧ R (.exn "InvalidRecipe" c) M))))
theorem ok__law_caught {P : Program} {w : World} {K : PySem.W.Frag} {mg : Str → Option Value} {base : Heap} {C f : Addr} {fd : FuncData} (T : Txt K mg) (F : FunD K "_law_caught" "_law_caught" (defArgs s__law_caught) (defBody s__law_caught) (defScope s__law_caught) [] [] f fd) (hkx_pieces_slopes_0_pieces : KCallX P w K mg base C 11 "pieces_slopes" 1 S_pieces_slopes Sx_pieces_slopes 0 ["pieces"] (pickL [0])) (hkx_no_line_0_pieces : KCallX P w K mg base C 12 "no_line" 1 S_no_line Sx_no_line 0 ["pieces"] (pickL [0])) (hkx_check_no_line_0_pieces_claim : KCallX P w K mg base C 5 "check_no_line" 2 S_check_no_line Sx_check_no_line 0 ["pieces", "claim"] (pickL [0, 1])) (hkx_pieces_recipe_0_pieces_base : KCallX P w K mg base C 12 "pieces_recipe" 2 S_pieces_recipe Sx_pieces_recipe 0 ["pieces", "base"] (pickL [0, 1])) (hkx_pieces_fault_0_pieces_recipe_base : KCallX P w K mg base C 7 "pieces_fault" 3 S_pieces_fault Sx_pieces_fault 0 ["pieces", "recipe", "base"] (pickL [0, 1, 2])) : FnOk P w K mg base CX0 13 f fd ["_law_way", "_law_given", "_law_made", "_law_root"] (spD ⟨K, C⟩ 4 S__law_caught) := by
  have nd := sc__law_caught.nd
  refine fn_ok 6 4 F sc__law_caught (fun cdv A outer s H E hr =>
      (qss_cons (qs_set (i := 4) nd qn)
      (qss_cons (qs_try (i := 5) (j := 4) nd T.g_FourTestsError (fun pn xe hpo =>
        (qss_one (qs_if (qt_cmp (c_eq hr) (qv 0) qi)
          (qss_one (qs_exprX (qxck0 hkx_pieces_slopes_0_pieces hr (by decide) (QK.x (qk_cons (qv 1) qk_nil)))))
          (qss_one (qs_if (qt_cmp (c_eq hr) (qv 0) qi)
            (qss_one (qs_exprX (qxck0 hkx_no_line_0_pieces hr (by decide) (QK.x (qk_cons (qv 1) qk_nil)))))
            (qss_one (qs_if (qt_cmp (c_eq hr) (qv 0) qi)
              (qss_one (qs_exprX (qxck0 hkx_check_no_line_0_pieces_claim hr (by decide) (QK.x (qk_cons (qv 1) (qk_cons (qv 2) qk_nil))))))
              (qss_one (qs_if (qt_cmp (c_eq hr) (qv 0) qi)
                (qss_one (qs_exprX (qxck0 hkx_pieces_recipe_0_pieces_base hr (by decide) (QK.x (qk_cons (qv 1) (qk_cons (qv 3) qk_nil))))))
                (qss_one (qs_exprX (qxck0 hkx_pieces_fault_0_pieces_recipe_base hr (by decide) (QK.x (qk_cons (qv 1) (qk_cons (qv 2) (qk_cons (qv 3) qk_nil)))))))))))))))))
      (qss_one (qs_ret (qv 4)))))) ?_
  rintro ds M R - ⟨w, g, c, r, rfl, w4, h⟩
  have e1 : noFld (Str.ofString "InvalidList") = false := nf_InvalidList
  have e2 : noFld (Str.ofString "InvalidNumber") = false := nf_InvalidNumber
  have e3 : noFld (Str.ofString "InvalidRecipe") = false := nf_InvalidRecipe
  have w5 : w = 0 ∨ w = 1 ∨ w = 2 ∨ w = 3 ∨ w = 4 := by omega
  walk_at "w"
  rcases h with ⟨hb, hR⟩ | ⟨P, rfl, G, h⟩
  · have fin : fin M R (.exn "InvalidList" g) M := by
      rcases hb with ⟨p, ds, rfl, hp, _⟩ | ⟨_, pu, _⟩
      · exact fin_exn M Sub.refl (fun _ h => h) (by rw [hp]; rfl) hR
      · exact fin_pure hR pu
    have fe : Dl.fin M R (if noFld (Str.ofString "InvalidList") = true then D.exn0 (Str.ofString "InvalidList") else D.exn (Str.ofString "InvalidList") g) M := by
      rw [e1]; exact fin
    exact ⟨fun _ => .inr ⟨g, rfl, hb, fe⟩, fun _ => ⟨fun _ => .inr ⟨g, rfl, hb, fe⟩, fun _ => ⟨fun _ => .inr ⟨g, c, rfl, hb, fe⟩, fun _ => ⟨fun _ => .inr ⟨g, r, rfl, .inl ⟨hb, fe⟩⟩, fun _ => .inr ⟨g, c, r, rfl, .inl ⟨hb, fe⟩⟩⟩⟩⟩⟩
  rcases h with ⟨⟨b, rfl, rfl, b2, b36⟩, hR⟩ | ⟨hw, tr, pr, nb, hR⟩ | ⟨rfl, rc, nr, hR⟩
  · have fin : fin M R .non M := fin_pure hR
    refine ⟨fun _ => .inl ⟨P, rfl, G.ok, G.ne, G.len, fun _ => fin, fun _ => fin, fun _ _ _ => fin⟩, fun _ => ⟨fun _ => .inl ⟨P, rfl, G.ok, G.ne, G.len, fun _ => fin, fun _ _ _ _ => fin⟩, fun _ => ⟨fun _ => .inl ?_, fun _ => ⟨fun _ => .inl ⟨P, b, rfl, G.ok, G.ne, G.len, b2, b36, fun _ => fin, fun _ _ _ _ _ _ _ => fin, fun _ _ _ _ _ _ _ _ _ _ _ _ => fin⟩, fun _ => .inl ⟨P, 1, 0, 1, b, rfl, fun p hp => (G.ok p hp).d, G.ne, G.len, b2, b36, by decide, by decide, fun _ => fin, fun _ _ _ => fin⟩⟩⟩⟩⟩
    exact ⟨P, .tup [.int 1, .int 0, .int 1], rfl, rfl, fun p hp => (G.ok p hp).d, G.ne, G.len, fin⟩
  · have fe : Dl.fin M R (if noFld (Str.ofString "InvalidNumber") = true then D.exn0 (Str.ofString "InvalidNumber") else D.exn (Str.ofString "InvalidNumber") r) M := by
      rw [e2]; exact fin_pure hR pr
    refine ⟨fun z => absurd z (by omega), fun _ => ⟨fun z => absurd z (by omega), fun _ => ⟨fun z => absurd z (by omega), fun _ => ⟨fun _ => .inr ⟨_, r, rfl, .inr ⟨P, rfl, G.ok, G.ne, G.len, tr, pr, nb, fe⟩⟩, fun z => ?_⟩⟩⟩⟩
    rcases hw with rfl | ⟨rfl, rfl⟩
    · exact absurd rfl z
    · exact .inr ⟨_, _, r, rfl, .inr ⟨P, rfl, G.ne, G.len, fun p hp => (G.ok p hp).d.lh, rec_ok 1 0 1, .inr ⟨⟨1, 0, 1, rfl, by decide⟩, tr, pr, nb, fe⟩⟩⟩
  · have fe : Dl.fin M R (if noFld (Str.ofString "InvalidRecipe") = true then D.exn0 (Str.ofString "InvalidRecipe") else D.exn (Str.ofString "InvalidRecipe") c) M := by
      rw [e3]; exact fin_pure hR rc.pu
    exact ⟨fun z => absurd z (by decide), fun _ => ⟨fun z => absurd z (by decide), fun _ => ⟨fun z => absurd z (by decide), fun _ => ⟨fun z => absurd z (by decide), fun z => .inr ⟨_, c, r, rfl, .inr ⟨P, rfl, G.ne, G.len, fun p hp => (G.ok p hp).d.lh, rc, .inl ⟨nr, fe⟩⟩⟩⟩⟩⟩⟩
abbrev N_Line___repr__ : List Str := ["self"]
theorem sc_Line___repr__ : FnScope N_Line___repr__ ["self"] (defScope s_Line___repr__) := ⟨rfl, rfl, rfl, by decide +kernel, rfl, by decide +kernel, by decide +kernel⟩
def shL (t p o : Int) : Str := Str.empty ++ "Line(" ++ (toString t : String) ++ ", " ++ (toString p : String) ++ ", " ++ (toString o : String) ++ ")"
def S_Line___repr__ : DSp := fun ds M R _ => ∃ t p o, ds = [.ln t p o] ∧ Sm 900 t ∧ Sm 900 p ∧ Sm 900 o ∧ R (.str (shL t p o)) M
theorem ok_Line___repr__ {P : Program} {w : World} {K : PySem.W.Frag} {mg : Str → Option Value} {base : Heap} {C f : Addr} {fd : FuncData} (T : Txt K mg) (F : FunD K "__repr__" "Line.__repr__" (defArgs s_Line___repr__) (defBody s_Line___repr__) (defScope s_Line___repr__) [] [] f fd) (hp_over : POk P w K mg base C 1 "over" S_Line_over) (hp_plus : POk P w K mg base C 1 "plus" S_Line_plus) (hp_times : POk P w K mg base C 1 "times" S_Line_times) : FnOk P w K mg base CX0 3 f fd ["self"] (spD ⟨K, C⟩ 1 S_Line___repr__) := by
  have nd := sc_Line___repr__.nd
  refine fn_ok 1 1 F sc_Line___repr__ (fun cdv A outer s H E hr =>
      (qss_one (qs_ret (q_fs (qj_cons qs (qj_cons (q_fmt (q_prop hp_times hr (by decide) (qv 0))) (qj_cons qs (qj_cons (q_fmt (q_prop hp_plus hr (by decide) (qv 0))) (qj_cons qs (qj_cons (q_fmt (q_prop hp_over hr (by decide) (qv 0))) (qj_cons qs qj_nil))))))))))) ?_
  rintro ds M R - ⟨t, p, o, rfl, st, sp, so, hR⟩
  have lt := len_int st (by decide)
  have lp := len_int sp (by decide)
  have lo := len_int so (by decide)
  have a0 : Str.empty.length = 0 := rfl
  have a1 : (Str.ofString "Line(").length = 5 := by decide +kernel
  have a2 : (Str.ofString ", ").length = 2 := by decide +kernel
  have a3 : (Str.ofString ")").length = 1 := by decide +kernel
  have fit : ∀ {x : Str}, x.length ≤ 3000 → x.length ≤ sizeLine := fun h => by rw [sizeLine_eq]; omega
  have lg : ∀ {i : Int}, Sm 900 i → i.natAbs.log2 < 1920 := fun h => Nat.lt_of_lt_of_le (h.log (by decide)) (by decide)
  walk_at "w"
  refine ⟨fit (by simp only [Str.length_append, a0, a1]; omega), t, p, o, rfl, ?_⟩
  walk_at "w"
  refine ⟨lg st, fit (by simp only [Str.length_append, a0, a1]; omega), fit (by simp only [Str.length_append, a0, a1, a2]; omega), t, p, o, rfl, ?_⟩
  walk_at "w"
  refine ⟨lg sp, fit (by simp only [Str.length_append, a0, a1, a2]; omega), fit (by simp only [Str.length_append, a0, a1, a2]; omega), t, p, o, rfl, ?_⟩
  walk_at "w"
  exact ⟨lg so, fit (by simp only [Str.length_append, a0, a1, a2]; omega), fit (by simp only [Str.length_append, a0, a1, a2, a3]; omega), fin_pure hR⟩
abbrev N__law_list_right : List Str := ["_law_way", "_law_value", "_law_kept", "_law_caught_here"]
theorem sc__law_list_right : FnScope N__law_list_right ["_law_way", "_law_value"] (defScope s__law_list_right) := ⟨rfl, rfl, rfl, by decide +kernel, rfl, by decide +kernel, by decide +kernel⟩
def ShV (M : Mem) (d : D) (t : Str) : Prop := PyData.strOk t = true ∧ ∀ R : DR, R (.str t) M → oReprXD S_Line___repr__ [d] M R
def S__law_list_right : DSp := fun ds M R _ => ∃ (w : Nat) (d : D) (t : Str), ds = [.int w, d] ∧ w ≤ 4 ∧ BadPs M d ∧ ShV M d t ∧ (∀ p es, d = .own p → M p = some (.lst es) → R (.bl true) (mset M p (.lst (es ++ [.non])))) ∧ ((∀ p, d ≠ .own p) → R (.bl true) M)
theorem ok__law_list_right {P : Program} {w : World} {K : PySem.W.Frag} {mg : Str → Option Value} {base : Heap} {C f : Addr} {fd : FuncData} (T : Txt K mg) (F : FunD K "_law_list_right" "_law_list_right" (defArgs s__law_list_right) (defBody s__law_list_right) (defScope s__law_list_right) [] [] f fd) (hur___repr__ : UOk P w K mg base C 3 "__repr__" 1 S_Line___repr__) (h__law_caught : CallOk P w K mg base C 13 "_law_caught" 4 S__law_caught []) (h_ex : ExAll K mg csL tsL) (h_isL : IsiF K mg C) : FnG P w K mg base CX0 14 f fd ["_law_way", "_law_value"] (spD ⟨K, C⟩ 2 S__law_list_right) := by
  have nd := sc__law_list_right.nd
  refine fn_okG 4 2 F sc__law_list_right (fun cdv A outer s H E hr hgu =>
      (qss_cons (qs_set (i := 2) nd (q_cb (b_reprXD hur___repr__ hr (by decide) hgu) rfl T.b_repr bb_repr (qa_cons (qv 1) qa_nil)))
      (qss_cons (qs_set (i := 3) nd (qc h__law_caught hr (by decide) (qa_cons (qv 0) (qa_cons (qv 1) (qa_cons qn (qa_cons qi qa_nil))))))
      (qss_cons (qs_if (QW.qt (qw_or (qt_not (qt_val (q_isX (t := "InvalidList") h_ex (by decide +kernel) (qv 3) rfl T.b_isinstance bb_isinstance))) (qw_or (qt_cmp (c_ne hr) (q_cb (b_reprXD hur___repr__ hr (by decide) hgu) rfl T.b_repr bb_repr (qa_cons (q_fld (f := "value") h_ex (qv 3)) qa_nil)) (qv 2)) (qw_or1 (qt_cmp (c_ne hr) (q_cb (b_reprXD hur___repr__ hr (by decide) hgu) rfl T.b_repr bb_repr (qa_cons (qv 1) qa_nil)) (qv 2))))))
        (qss_one (qs_ret qb))
        qss_nil)
      (qss_cons (qs_if (qt_not (qt_val (q_isiB .lst h_isL (qv 1) rfl T.b_isinstance bb_isinstance rfl T.b_list bb_list)))
        (qss_one (qs_ret qb))
        qss_nil)
      (qss_cons (qs_expr (q_append (qv 1) qn))
      (qss_one (qs_ret (q_cmp (c_eq hr) (q_cb b_len rfl T.b_len bb_len (qa_cons (q_fld (f := "value") h_ex (qv 3)) qa_nil)) (q_cb b_len rfl T.b_len bb_len (qa_cons (qv 1) qa_nil))))))))))) ?_
  rintro ds M R - ⟨w, d, t, rfl, w4, hb, ⟨st, sh⟩, hR1, hR2⟩
  walk_at "w"
  refine sh _ ?_
  walk_at "w"
  have inL : Str.ofString "InvalidList" ∈ csL := by decide +kernel
  refine ⟨w, d, .non, .int 1, rfl, w4, .inl ⟨hb, ?_⟩⟩
  refine ⟨inL, fun z => absurd z (by decide +kernel), fun _ => ⟨inL, nf_InvalidList, fl_InvalidList, sh _ ?_⟩⟩
  refine eqG_self (d := .str t) st ?_
  refine ⟨fun z => (by cases z), fun _ => sh _ ?_⟩
  refine eqG_self (d := .str t) st ?_
  refine ⟨fun z => (by cases z), fun _ => ?_⟩
  rcases hb with ⟨p, es, rfl, hp, hl, _⟩ | ⟨ty, pu, nl⟩
  · rw [f_tyMown, hp]
    refine ⟨fun z => (by cases z), fun _ => ⟨lstAt_of hp, ?_⟩⟩
    rw [hp]
    refine ⟨Nat.lt_trans hl (by decide), inL, nf_InvalidList, fl_InvalidList, ?_⟩
    walk_at "w"
    exact fin_set (hR1 p es rfl hp)
  · have fin : fin M R (.bl true) M := fin_pure (hR2 fun p z => by rw [z] at ty; cases ty)
    cases d with
    | scr _ => cases ty
    | exn _ _ => cases ty
    | exn0 _ => cases ty
    | cls => cases ty
    | own _ => cases ty
    | lst l => exact absurd rfl (nl l)
    | ln _ _ _ => exact ⟨rfl, fin⟩
    | _ => exact ⟨fun _ => fin, fun z => (by cases z)⟩
abbrev N__law_line : List Str := ["_law_parts_here"]
theorem sc__law_line : FnScope N__law_line ["_law_parts_here"] (defScope s__law_line) := ⟨rfl, rfl, rfl, by decide +kernel, rfl, by decide +kernel, by decide +kernel⟩
def S__law_line : DSp := fun ds M R _ => ∃ x : Tr, ds = [trD x] ∧ 1 ≤ x.2.2 ∧ R (trL x) M
theorem ok__law_line {P : Program} {w : World} {K : PySem.W.Frag} {mg : Str → Option Value} {base : Heap} {C f : Addr} {fd : FuncData} (T : Txt K mg) (F : FunD K "_law_line" "_law_line" (defArgs s__law_line) (defBody s__law_line) (defScope s__law_line) [] [] f fd) (h_Line : LMk P w K mg base C 3) : FnOk P w K mg base CX0 5 f fd ["_law_parts_here"] (spD ⟨K, C⟩ 1 S__law_line) := by
  have nd := sc__law_line.nd
  refine fn_ok 1 1 F sc__law_line (fun cdv A outer s H E hr =>
      (qss_one (qs_ret (q_line h_Line hr (by decide) (qa_cons (q_ixC 0 (qv 0)) (qa_cons (q_ixC 1 (qv 0)) (qa_cons (q_ixC 2 (qv 0)) qa_nil))))))) ?_
  rintro ds M R - ⟨x, rfl, h1, hR⟩
  simp only [trD]
  walk_at "w"
  exact ⟨h1, fin_pure hR⟩
abbrev N__law_bad : List Str := ["_law_parts_here", "_law_low", "_law_high", "_law_good", "_law_line_here", "_law_bad_here"]
theorem sc__law_bad : FnScope N__law_bad ["_law_parts_here", "_law_low", "_law_high", "_law_good"] (defScope s__law_bad) := ⟨rfl, rfl, rfl, by decide +kernel, rfl, by decide +kernel, by decide +kernel⟩
def BadE (es : List D) : Prop := es.length < 1000 ∧ (∀ e ∈ es, ElOk e) ∧ (es = [] ∨ 12 < es.length ∨ ∃ e ∈ es, pieceB e = false)
def TxtD (d : D) (t : Str) : Prop := TxtOk S_Line___repr__ d t ∨ (PyData.strOk t = true ∧ ShowD S_Line___repr__ d t)
def Itm (N : Mem) (d : D) : Prop := (∃ p es t, d = .own p ∧ N p = some (.lst es) ∧ BadE es ∧ TxtOk S_Line___repr__ (.lst es) t) ∨ (tyL d = true ∧ pureD d = true ∧ (∀ l, d ≠ .lst l) ∧ ∃ t, TxtD d t)
theorem Itm.bad {N : Mem} {d : D} (h : Itm N d) : BadPs N d := by
  rcases h with ⟨p, es, t, rfl, hp, b, _⟩ | ⟨ty, pu, nl, _⟩
  · exact .inl ⟨p, es, rfl, hp, b.1, b.2.1, b.2.2⟩
  · exact .inr ⟨ty, pu, nl⟩
theorem Itm.sh {N : Mem} {d : D} (h : Itm N d) : ∃ t, ShV N d t := by
  rcases h with ⟨p, es, t, rfl, hp, _, tx⟩ | ⟨_, pu, _, t, tx⟩
  · exact ⟨t, tx.1, fun R k => .inr (shu_xown tx.2 hp k)⟩
  · rcases tx with tx | ⟨st, tx⟩
    · exact ⟨t, tx.1, fun R k => .inr (shu_xo tx.2 pu k)⟩
    · exact ⟨t, st, fun R k => .inl ⟨d, t, rfl, tx, k⟩⟩
theorem Itm.more {N : Mem} {d : D} {q : Addr} {m : MO} (h : Itm N d) (hq : d ≠ .own q) : Itm (mset N q m) d := by
  rcases h with ⟨p, es, t, rfl, hp, b, tx⟩ | h
  · refine .inl ⟨p, es, t, rfl, ?_, b, tx⟩
    rw [mset_ne (fun z => hq (by rw [z]))]
    exact hp
  · exact .inr h
def ownA : D → Option Addr
  | .own p => some p
  | _ => none
structure Bads (M N : Mem) (vals : List D) : Prop where
  sub : Sub M N
  it : ∀ d ∈ vals, Itm N d
  fr : ∀ p, D.own p ∈ vals → M p = none
  di : (vals.filterMap ownA).Nodup
theorem Bads.nil {M : Mem} : Bads M M [] := ⟨Sub.refl, fun d h => (by cases h), fun p h => (by cases h), by simp⟩
theorem Bads.own {M N : Mem} {vals : List D} {p : Addr} {es : List D} {t : Str} (b : Bads M N vals) (hp : N p = none) (be : BadE es) (tx : TxtOk S_Line___repr__ (.lst es) t) : Bads M (mset N p (.lst es)) (vals ++ [.own p]) := by
  have np : ∀ d ∈ vals, d ≠ .own p := fun d hd z => by
    rcases b.it d hd with ⟨q, es', t', e, hq, _⟩ | ⟨ty, _⟩
    · rw [z] at e; cases e; rw [hp] at hq; cases hq
    · rw [z] at ty; cases ty
  refine ⟨b.sub.more hp, fun d hd => ?_, fun q hq => ?_, ?_⟩
  · rcases List.mem_append.mp hd with hd | hd
    · exact (b.it d hd).more (np d hd)
    · rw [List.mem_singleton] at hd
      subst hd
      exact .inl ⟨p, es, t, rfl, mset_same, be, tx⟩
  · rcases List.mem_append.mp hq with hq | hq
    · exact b.fr q hq
    · rw [List.mem_singleton] at hq
      cases hq
      exact b.sub.non hp
  · rw [List.filterMap_append, List.nodup_append]
    refine ⟨b.di, by simp [ownA], fun a ha c hc e => ?_⟩
    obtain ⟨d, hd, ed⟩ := List.mem_filterMap.mp ha
    simp [ownA] at hc
    subst hc
    subst e
    cases d <;> simp [ownA] at ed
    exact np _ hd (by rw [ed])
theorem Bads.plainD {M N : Mem} {vals : List D} {d : D} {t : Str} (b : Bads M N vals) (ty : tyL d = true) (pu : pureD d = true) (nl : ∀ l, d ≠ .lst l) (tx : TxtD d t) : Bads M N (vals ++ [d]) := by
  have no : ownA d = none := by cases d <;> first | rfl | cases ty
  refine ⟨b.sub, fun e he => ?_, fun q hq => ?_, ?_⟩
  · rcases List.mem_append.mp he with he | he
    · exact b.it e he
    · rw [List.mem_singleton] at he
      subst he
      exact .inr ⟨ty, pu, nl, t, tx⟩
  · rcases List.mem_append.mp hq with hq | hq
    · exact b.fr q hq
    · rw [List.mem_singleton] at hq
      subst hq
      cases ty
  · rw [List.filterMap_append]
    simp [no, b.di]
theorem Bads.plain {M N : Mem} {vals : List D} {d : D} {t : Str} (b : Bads M N vals) (ty : tyL d = true) (pu : pureD d = true) (nl : ∀ l, d ≠ .lst l) (tx : TxtOk S_Line___repr__ d t) : Bads M N (vals ++ [d]) := b.plainD ty pu nl (.inl tx)
def shT (x : Int × Int × Int) : Str := shL x.1 x.2.1 x.2.2
theorem lnSh : LnSh S_Line___repr__ shT := by
  have a0 : Str.empty.length = 0 := rfl
  have a1 : (Str.ofString "Line(").length = 5 := by decide +kernel
  have a2 : (Str.ofString ", ").length = 2 := by decide +kernel
  have a3 : (Str.ofString ")").length = 1 := by decide +kernel
  refine ⟨fun x M h1 h2 h3 => ⟨_, _, _, rfl, h1, h2, h3, rfl, rfl⟩, fun x h1 h2 h3 => ?_, fun x => ?_⟩
  · have l1 := len_int h1 (by decide)
    have l2 := len_int h2 (by decide)
    have l3 := len_int h3 (by decide)
    unfold shT shL
    simp only [Str.length_append, a0, a1, a2, a3]
    omega
  · have e : PyData.strOk Str.empty = true := by decide +kernel
    unfold shT shL
    simp only [okS_app, okS_of, e, Bool.and_true]
theorem GX.mono {txt : Int × Int × Int → Str} {d : D} {n m : Nat} (h : GX txt d n) (hm : n ≤ m) : GX txt d m := ⟨h.ok, h.ln, Nat.le_trans h.len hm, h.st⟩
theorem gxl {x : Tr} (h1 : Sm 99 x.1) (h2 : Sm 99 x.2.1) (h3 : Sm 99 x.2.2) : GX shT (trL x) 310 := by
  have m9 : ∀ {z : Int}, Sm 99 z → Sm 900 z := fun h => h.mono (by decide)
  refine ⟨rfl, fun y hy => ?_, ?_, lnSh.ok _⟩
  · simp only [trL, lnsX, List.mem_singleton] at hy
    subst hy
    exact ⟨m9 h1, m9 h2, m9 h3⟩
  · have l1 := len_int h1 (by decide)
    have l2 := len_int h2 (by decide)
    have l3 := len_int h3 (by decide)
    have a0 : Str.empty.length = 0 := rfl
    have a1 : (Str.ofString "Line(").length = 5 := by decide +kernel
    have a2 : (Str.ofString ", ").length = 2 := by decide +kernel
    have a3 : (Str.ofString ")").length = 1 := by decide +kernel
    show (shL x.1 x.2.1 x.2.2).length ≤ 310
    unfold shL
    simp only [Str.length_append, a0, a1, a2, a3]
    omega
theorem txt_lst {es : List D} (h : ∀ e ∈ es, GX shT e 1600) (ne : es ≠ []) (l : es.length ≤ 18) (hd : depX (.lst es) ≤ 6) : ∃ t, TxtOk S_Line___repr__ (.lst es) t := by
  have hc : conX (.lst es) = true := by cases es with | nil => exact absurd rfl ne | cons _ _ => rfl
  exact GX.shu lnSh (gx_lstN h) (by omega) hc hd
def elB (d : D) : Bool := tyL d && (pureD d && (match d with
  | .tup l => l.all tyL
  | _ => true))
theorem elOk_of {d : D} (h : elB d = true) : ElOk d := by
  unfold elB at h
  obtain ⟨h1, h⟩ := He.ba h
  obtain ⟨h2, h3⟩ := He.ba h
  refine ⟨h1, h2, fun l e x hx => ?_⟩
  subst e
  exact List.all_eq_true.mp h3 x hx
theorem mdel_new {M : Mem} {p : Addr} {m : MO} (h : M p = none) : mdel (mset M p m) p = M := by
  funext a
  unfold mdel mset
  by_cases e : a = p
  · rw [if_pos e, e, h]
  · rw [if_neg e, if_neg e]
theorem Bads.lst {M N : Mem} {vals : List D} {p : Addr} {es : List D} (b : Bads M N vals) (hp : N p = none) (l20 : es.length ≤ 18) (el : es.all elB = true) (gx : ∀ e ∈ es, GX shT e 1600) (ne : es ≠ []) (dep : depX (.lst es) ≤ 6) (bad : 12 < es.length ∨ ∃ e ∈ es, pieceB e = false) : Bads M (mset N p (.lst es)) (vals ++ [.own p]) := by
  obtain ⟨t, tx⟩ := txt_lst gx ne l20 dep
  exact b.own hp ⟨by omega, fun e he => elOk_of (List.all_eq_true.mp el e he), .inr bad⟩ tx
theorem Bads.emp {M N : Mem} {vals : List D} {p : Addr} (b : Bads M N vals) (hp : N p = none) : Bads M (mset N p (.lst [])) (vals ++ [.own p]) := by
  obtain ⟨q, a, c⟩ := okSh_ok (d := .lst []) (by decide +kernel)
  exact b.own hp ⟨by decide, fun e he => (by cases he), .inl rfl⟩ ⟨c, .inl ⟨q, a, rfl⟩⟩
theorem Bads.pl {M N : Mem} {vals : List D} {d : D} (b : Bads M N vals) (h : (tyL d && (pureD d && okSh d)) = true) (nl : ∀ l, d ≠ .lst l) : Bads M N (vals ++ [d]) := by
  obtain ⟨h1, h⟩ := He.ba h
  obtain ⟨h2, h3⟩ := He.ba h
  obtain ⟨q, a, c⟩ := okSh_ok h3
  exact b.plain h1 h2 nl ⟨c, .inl ⟨q, a, rfl⟩⟩
theorem Bads.gx {M N : Mem} {vals : List D} {d : D} (b : Bads M N vals) (h1 : tyL d = true) (h2 : pureD d = true) (nl : ∀ l, d ≠ .lst l) (g : GX shT d 1600) (hc : conX d = true) (hd : depX d ≤ 6) : Bads M N (vals ++ [d]) := by
  obtain ⟨t, tx⟩ := g.shu lnSh (by decide) hc hd
  exact b.plain h1 h2 nl tx
theorem gx_tup1 {txt : Int × Int × Int → Str} {a : D} {n : Nat} (ha : GX txt a n) : GX txt (.tup [a]) (n + 3) := by
  have e : shX txt (.tup [a]) = (Str.ofString "(" ++ shX txt a) ++ Str.ofString ",)" := by
    simp only [shX, shXL]
    rfl
  have a1 : (Str.ofString "(").length = 1 := by decide +kernel
  have a3 : (Str.ofString ",)").length = 2 := by decide +kernel
  have l1 := ha.len
  refine ⟨by simp [okX, okXL, ha.ok], fun x hx => ?_, ?_, ?_⟩
  · simp only [lnsX, lnsXL, List.append_nil] at hx
    exact ha.ln x hx
  · rw [e]
    simp only [Str.length_append, a1, a3]
    omega
  · rw [e]
    simp only [okS_app, okS_of, ha.st, Bool.and_true]
theorem dct_tx {d : D} (g : GX shT d 1600) (pu : pureD d = true) (dp : depX d ≤ 5) : ∃ t, TxtD (.dct [.inl 0] [d]) t := by
  have a1 : (Str.ofString "{").length = 1 := by decide +kernel
  have a2 : (Str.ofString ": ").length = 2 := by decide +kernel
  have a3 : (Str.ofString "}").length = 1 := by decide +kernel
  have a4 : (Str.ofString "0").length = 1 := by decide +kernel
  have e0 : shX shT (kD (.inl 0)) = Str.ofString "0" := by decide +kernel
  have e : dictText (entT shT [.inl 0] [d]) = Str.ofString "{" ++ (Str.ofString "0" ++ Str.ofString ": " ++ shX shT d) ++ Str.ofString "}" := by
    simp only [entT, e0]
    unfold dictText
    rfl
  have l := g.len
  refine ⟨_, .inr ⟨?_, ?_, [.inl 0], [d], shT, rfl, ?_, ?_, ?_, ?_, rfl, ?_⟩⟩
  · rw [e]
    simp only [okS_app, okS_of, g.st, Bool.and_true]
  · rw [e]
    refine fit3k ?_
    simp only [Str.length_append, a1, a2, a3, a4]
    omega
  · intro k hk
    rw [List.mem_singleton] at hk
    subst hk
    decide +kernel
  · show (okX d && true) = true
    rw [g.ok]; rfl
  · show (pureD d && true) = true
    rw [pu]; rfl
  · show max (depX d) 0 ≤ 5
    omega
  · intro x hx
    simp only [lnsXL, List.append_nil] at hx
    obtain ⟨a, b, c⟩ := g.ln x hx
    exact lnSh.sh x nomem a b c
def S__law_bad : DSp := fun ds M R _ => ∃ (x : Tr) (l h : Int), ds = [.tup [.int x.1, .int x.2.1, .int x.2.2], .int l, .int h, .lst ([(x, l, h), (x, l, l), (x, l, h)].map pcD)] ∧ PtOk x ∧ l < h ∧ Sm 99 l ∧ Sm 99 h ∧ ∀ vals N, Bads M N vals → R (.lst vals) N
theorem ok__law_bad {P : Program} {w : World} {K : PySem.W.Frag} {mg : Str → Option Value} {base : Heap} {C f : Addr} {fd : FuncData} (T : Txt K mg) (F : FunD K "_law_bad" "_law_bad" (defArgs s__law_bad) (defBody s__law_bad) (defScope s__law_bad) [] [] f fd) (h__law_line : CallOk P w K mg base C 5 "_law_line" 1 S__law_line []) : FnOk P w K mg base CX0 6 f fd ["_law_parts_here", "_law_low", "_law_high", "_law_good"] (spD ⟨K, C⟩ 4 S__law_bad) := by
  have nd := sc__law_bad.nd
  refine fn_ok 6 4 F sc__law_bad (fun cdv A outer s H E hr =>
      (qss_cons (qs_set (i := 4) nd (qc h__law_line hr (by decide) (qa_cons (qv 0) qa_nil)))
      (qss_cons (qs_set (i := 5) nd (q_lst (qa_cons qi (qa_cons qb (qa_cons qs (qa_cons q_dct0 (qa_cons (q_dct (qps_cons qi (q_tup (qa_cons (qv 4) (qa_cons (qv 1) (qa_cons (qv 2) qa_nil)))) qps_nil)) (qa_cons (qv 4) qa_nil))))))))
      (qss_cons (qs_set (i := 5) nd (q_add (qv 5) (q_lst (qa_cons (q_lstO qa_nil) (qa_cons qn (qa_cons (q_tup (qa_cons (qv 4) (qa_cons (qv 1) (qa_cons (qv 2) qa_nil)))) (qa_cons (q_tup (qa_cons (q_tup (qa_cons (qv 4) (qa_cons (qv 1) (qa_cons (qv 2) qa_nil)))) qa_nil)) (qa_cons (q_repO (q_lst (qa_cons (q_tup (qa_cons (qv 4) (qa_cons (qv 1) (qa_cons (qv 2) qa_nil)))) qa_nil)) qi) qa_nil))))))))
      (qss_cons (qs_set (i := 5) nd (q_add (qv 5) (q_lst (qa_cons (q_lstO (qa_cons (q_tup (qa_cons (qv 4) (qa_cons (qv 2) (qa_cons (qv 1) qa_nil)))) qa_nil)) (qa_cons (q_lstO (qa_cons (qv 4) qa_nil)) qa_nil)))))
      (qss_cons (qs_set (i := 5) nd (q_add (qv 5) (q_lst (qa_cons (q_addO (qv 3) (q_lst (qa_cons (q_tup (qa_cons (qv 4) (qa_cons (qv 1) qa_nil))) qa_nil))) (qa_cons (q_addO (qv 3) (q_lst (qa_cons (q_lst (qa_cons (qv 4) (qa_cons (qv 1) (qa_cons (qv 2) qa_nil)))) qa_nil))) (qa_cons (q_addO (qv 3) (q_lst (qa_cons (q_tup (qa_cons (qv 4) (qa_cons (qv 1) (qa_cons (qv 2) (qa_cons qi qa_nil))))) qa_nil))) (qa_cons (q_lstO (qa_cons (q_tup (qa_cons (qv 0) (qa_cons (qv 1) (qa_cons (qv 2) qa_nil)))) qa_nil)) qa_nil)))))))
      (qss_cons (qs_set (i := 5) nd (q_add (qv 5) (q_lst (qa_cons (q_addO (qv 3) (q_lst (qa_cons (q_tup (qa_cons (qv 4) (qa_cons qb (qa_cons qi qa_nil)))) qa_nil))) (qa_cons (q_addO (qv 3) (q_lst (qa_cons (q_tup (qa_cons (qv 4) (qa_cons (qv 1) (qa_cons qn qa_nil)))) qa_nil))) (qa_cons (q_addO (qv 3) (q_lst (qa_cons (q_tup (qa_cons qn (qa_cons (qv 1) (qa_cons (qv 2) qa_nil)))) qa_nil))) (qa_cons (q_addO (qv 3) (q_lst (qa_cons qn qa_nil))) qa_nil)))))))
      (qss_cons (qs_set (i := 5) nd (q_add (qv 5) (q_lst (qa_cons (q_addO (qv 3) (q_lst (qa_cons (q_tup (qa_cons (qv 4) (qa_cons (qv 1) (qa_cons qb qa_nil)))) qa_nil))) (qa_cons (q_addO (qv 3) (q_lst (qa_cons (q_tup (qa_cons (qv 4) (qa_cons qb (qa_cons (qv 2) qa_nil)))) qa_nil))) qa_nil)))))
      (qss_one (qs_ret (q_add (qv 5) (q_lst (qa_cons (q_addO (q_lst (qa_cons (q_tup (qa_cons (qv 4) (qa_cons (qv 2) (qa_cons (qv 1) qa_nil)))) qa_nil)) (qv 3)) (qa_cons (q_addO (q_add (q_sl (qv 3) qo_none (qo_some qi)) (q_lst (qa_cons (q_tup (qa_cons (qv 4) (qa_cons (qv 1) (qa_cons qs qa_nil)))) qa_nil))) (q_sl (qv 3) (qo_some qi) qo_none)) (qa_cons (q_addO (q_lst (qa_cons qn qa_nil)) (qv 3)) (qa_cons (q_lstO (qa_cons (qv 3) qa_nil)) qa_nil)))))))))))))))) ?_
  rintro ds M R - ⟨x, l, h, rfl, pt, lt, sl, sh, hR⟩
  walk_at "w"
  refine ⟨x, rfl, pt.o1, ?_⟩
  have s1 : Sm 99 x.1 := pt.t.sm.mono (by decide)
  have s2 : Sm 99 x.2.1 := pt.p.sm.mono (by decide)
  have s3 : Sm 99 x.2.2 := pt.o.sm.mono (by decide)
  have gL := gxl s1 s2 s3
  have gI : ∀ z, Sm 99 z → GX shT (.int z) 100 := fun z hz => gx_intN hz (by decide) (by decide)
  have gP : ∀ a b, Sm 99 a → Sm 99 b → GX shT (.tup [trL x, .int a, .int b]) 1600 := fun a b ha hb => (gx_tup3 gL (gI a ha) (gI b hb)).le (by omega)
  have gdx : ∀ es : List D, (depX (.lst es)).ble 6 = true → depX (.lst es) ≤ 6 := fun es h => Nat.le_of_ble_eq_true h
  have g1 := gP l h sl sh
  have g2 := gP l l sl sl
  have g3 := gP h l sh sl
  have stepG : ∀ {N vals p d}, Bads M N vals → N p = none → GX shT d 1600 → elB d = true → pieceB d = false → depX d ≤ 3 → Bads M (mset N p (.lst [pcD (x, l, h), pcD (x, l, l), pcD (x, l, h), d])) (vals ++ [.own p]) := fun {N vals p d} b hp gd el nb dd => by
    refine b.lst hp (show 4 ≤ 18 by decide) ?_ (fun e he => ?_) (by simp) ?_ (.inr ⟨d, by simp, nb⟩)
    · show (true && (true && (true && (elB d && true)))) = true
      rw [el]; rfl
    · simp only [List.mem_cons, List.not_mem_nil, or_false] at he
      rcases he with rfl | rfl | rfl | rfl
      · exact g1
      · exact g2
      · exact g1
      · exact gd
    · have e1 : depX (pcD (x, l, h)) = 1 := rfl
      have e2 : depX (pcD (x, l, l)) = 1 := rfl
      simp only [depX, depXL, e1, e2]
      omega
  have b0 : Bads M M [] := Bads.nil
  have b1 := b0.pl (d := .int 7) (by decide +kernel) (by simp)
  have b2 := b1.pl (d := .bl true) (by decide +kernel) (by simp)
  have b3 := b2.pl (d := .str "pieces") (by decide +kernel) (by simp)
  have b4 := b3.pl (d := .dct [] []) (by decide +kernel) (by simp)
  have b5 : Bads M M _ := b4.plainD (d := .dct [.inl 0] [.tup [trL x, .int l, .int h]]) rfl rfl (by simp) (dct_tx g1 rfl (Nat.le_of_ble_eq_true rfl)).choose_spec
  have b6 := b5.plain (d := trL x) rfl rfl (by simp [trL]) (gL.shu lnSh (by decide) rfl (Nat.zero_le _)).choose_spec
  intro p0 hp0
  simp only [mdel_new hp0]
  refine ⟨_, _, rfl, by simp, by decide, rfl, fun p1 hp1 => ?_⟩
  have b7 := b6.emp hp1
  generalize mset M p1 (.lst []) = N1 at b7 ⊢
  have b8 := b7.pl (d := .non) (by decide +kernel) (by simp)
  have b9 := b8.gx (d := .tup [trL x, .int l, .int h]) rfl rfl (by simp) g1 rfl (Nat.le_of_ble_eq_true rfl)
  refine ⟨by decide, by decide, rfl, fun p2 hp2 => ?_⟩
  have b10 := b9.gx (d := .tup [.tup [trL x, .int l, .int h]]) rfl rfl (by simp) (gx_tup1 ((gx_tup3 gL (gI l sl) (gI h sh)).le (show _ ≤ 900 by omega)) |>.le (by omega)) rfl (Nat.le_of_ble_eq_true rfl)
  have b11 := b10.lst (es := (List.replicate 13 [D.tup [trL x, .int l, .int h]]).flatten) hp2 (show 13 ≤ 18 by decide) rfl (fun e he => by
    simp only [List.mem_flatten, List.mem_replicate] at he
    obtain ⟨l', ⟨_, rfl⟩, he⟩ := he
    rw [List.mem_singleton] at he
    rw [he]; exact g1) (by simp [List.replicate]) (Nat.le_of_ble_eq_true rfl) (.inl (show 12 < 13 by decide))
  generalize mset N1 p2 _ = N2 at b11 ⊢
  refine ⟨rfl, fun p3 hp3 => ?_⟩
  have b12 := b11.lst (es := [.tup [trL x, .int h, .int l]]) hp3 (show 1 ≤ 18 by decide) rfl (fun e he => by rw [List.mem_singleton] at he; rw [he]; exact g3) (by simp) (Nat.le_of_ble_eq_true rfl) (.inr ⟨_, List.mem_singleton.mpr rfl, decide_eq_false (by omega)⟩)
  generalize mset N2 p3 _ = N3 at b12 ⊢
  refine ⟨rfl, fun p4 hp4 => ?_⟩
  have b13 := b12.lst (es := [trL x]) hp4 (show 1 ≤ 18 by decide) rfl (fun e he => by rw [List.mem_singleton] at he; rw [he]; exact gL.le (by decide)) (by simp) (Nat.le_of_ble_eq_true rfl) (.inr ⟨_, List.mem_singleton.mpr rfl, rfl⟩)
  generalize mset N3 p4 _ = N4 at b13 ⊢
  refine ⟨rfl, fun p5 hp5 => ?_⟩
  have b14 := stepG b13 hp5 ((gx_tup2 gL (gI l sl)).le (by omega)) rfl rfl (Nat.le_of_ble_eq_true rfl)
  generalize mset N4 p5 _ = N5 at b14 ⊢
  refine ⟨rfl, fun p6 hp6 => ?_⟩
  have gT : ∀ a b, GX shT a 100 → GX shT b 100 → GX shT (.tup [trL x, a, b]) 1600 := fun a b ha hb => (gx_tup3 gL ha hb).le (by omega)
  have gB : GX shT (.bl true) 100 := gx_of (by decide +kernel)
  have gF : GX shT (.bl false) 100 := gx_of (by decide +kernel)
  have gN : GX shT .non 100 := gx_of (by decide +kernel)
  have b15 := stepG b14 hp6 (d := .lst [trL x, .int l, .int h]) ((gx_lstN (n := 310) fun e he => by
    simp only [List.mem_cons, List.not_mem_nil, or_false] at he
    rcases he with rfl | rfl | rfl
    · exact gL
    · exact (gI l sl).le (by decide)
    · exact (gI h sh).le (by decide)).le (show 3 * 312 + 2 ≤ 1600 by decide)) rfl rfl (Nat.le_of_ble_eq_true rfl)
  generalize mset N5 p6 _ = N6 at b15 ⊢
  refine ⟨rfl, fun p7 hp7 => ?_⟩
  have b16 := stepG b15 hp7 (d := .tup [trL x, .int l, .int h, .int 1]) ((gx_tup4 gL (gI l sl) (gI h sh) (gI 1 (by decide))).le (by omega)) rfl rfl (Nat.le_of_ble_eq_true rfl)
  generalize mset N6 p7 _ = N7 at b16 ⊢
  intro p8 hp8
  have b17 := b16.lst (es := [.tup [.tup [.int x.1, .int x.2.1, .int x.2.2], .int l, .int h]]) hp8 (show 1 ≤ 18 by decide) rfl (fun e he => by rw [List.mem_singleton] at he; rw [he]; exact (gx_tup3 (gx_tup3 (gI _ s1) (gI _ s2) (gI _ s3)) (gI l sl) (gI h sh)).le (by omega)) (by simp) (Nat.le_of_ble_eq_true rfl) (.inr ⟨_, List.mem_singleton.mpr rfl, rfl⟩)
  generalize mset N7 p8 _ = N8 at b17 ⊢
  refine ⟨by decide, rfl, fun p9 hp9 => ?_⟩
  have b18 := stepG b17 hp9 (d := .tup [trL x, .bl true, .int 2]) (gT _ _ gB (gI 2 (by decide))) rfl rfl (Nat.le_of_ble_eq_true rfl)
  generalize mset N8 p9 _ = N9 at b18 ⊢
  refine ⟨rfl, fun p10 hp10 => ?_⟩
  have b19 := stepG b18 hp10 (d := .tup [trL x, .int l, .non]) (gT _ _ (gI l sl) gN) rfl rfl (Nat.le_of_ble_eq_true rfl)
  generalize mset N9 p10 _ = N10 at b19 ⊢
  have c1 : cutD [pcD (x, l, h), pcD (x, l, l), pcD (x, l, h)] none (some 1) = [pcD (x, l, h)] := by rw [cut_to _ _ (by decide)]; rfl
  have c2 : cutD [pcD (x, l, h), pcD (x, l, l), pcD (x, l, h)] (some 1) none = [pcD (x, l, l), pcD (x, l, h)] := by rw [cut_from _ _ (by decide)]; rfl
  refine ⟨rfl, fun p11 hp11 => ?_⟩
  have b20 := stepG b19 hp11 (d := .tup [.non, .int l, .int h]) ((gx_tup3 gN (gI l sl) (gI h sh)).le (by omega)) rfl rfl (Nat.le_of_ble_eq_true rfl)
  generalize mset N10 p11 _ = N11 at b20 ⊢
  refine ⟨rfl, fun p12 hp12 => ?_⟩
  have b21 := stepG b20 hp12 (d := .non) (gN.le (by decide)) rfl rfl (Nat.le_of_ble_eq_true rfl)
  generalize mset N11 p12 _ = N12 at b21 ⊢
  refine ⟨by decide, rfl, fun p13 hp13 => ?_⟩
  have b22 := stepG b21 hp13 (d := .tup [trL x, .int l, .bl true]) (gT _ _ (gI l sl) gB) rfl rfl (Nat.le_of_ble_eq_true rfl)
  generalize mset N12 p13 _ = N13 at b22 ⊢
  refine ⟨rfl, fun p14 hp14 => ?_⟩
  have b23 := stepG b22 hp14 (d := .tup [trL x, .bl false, .int h]) (gT _ _ gF (gI h sh)) rfl rfl (Nat.le_of_ble_eq_true rfl)
  generalize mset N13 p14 _ = N14 at b23 ⊢
  refine ⟨by decide, rfl, fun p15 hp15 => ?_⟩
  simp only [c1, c2, List.cons_append, List.nil_append]
  have b24 := b23.lst (es := [.tup [trL x, .int h, .int l], pcD (x, l, h), pcD (x, l, l), pcD (x, l, h)]) hp15 (show 4 ≤ 18 by decide) rfl (fun e he => by
    simp only [List.mem_cons, List.not_mem_nil, or_false] at he
    rcases he with rfl | rfl | rfl | rfl
    · exact g3
    · exact g1
    · exact g2
    · exact g1) (by simp) (Nat.le_of_ble_eq_true rfl) (.inr ⟨.tup [trL x, .int h, .int l], List.mem_cons_self, decide_eq_false (by omega)⟩)
  generalize mset N14 p15 _ = N15 at b24 ⊢
  refine ⟨(show 2 ≤ sizeLine by decide), (show 4 ≤ sizeLine by decide), rfl, fun p16 hp16 => ?_⟩
  have b25 := b24.lst (es := [pcD (x, l, h), .tup [trL x, .int l, .str "9"], pcD (x, l, l), pcD (x, l, h)]) hp16 (show 4 ≤ 18 by decide) rfl (fun e he => by
    simp only [List.mem_cons, List.not_mem_nil, or_false] at he
    rcases he with rfl | rfl | rfl | rfl
    · exact g1
    · exact gT _ _ (gI l sl) (gx_of (by decide +kernel))
    · exact g2
    · exact g1) (by simp) (Nat.le_of_ble_eq_true rfl) (.inr ⟨.tup [trL x, .int l, .str "9"], by simp, rfl⟩)
  generalize mset N15 p16 _ = N16 at b25 ⊢
  refine ⟨rfl, fun p17 hp17 => ?_⟩
  have b26 := b25.lst (es := [.non, pcD (x, l, h), pcD (x, l, l), pcD (x, l, h)]) hp17 (show 4 ≤ 18 by decide) rfl (fun e he => by
    simp only [List.mem_cons, List.not_mem_nil, or_false] at he
    rcases he with rfl | rfl | rfl | rfl
    · exact gN.le (by decide)
    · exact g1
    · exact g2
    · exact g1) (by simp) (Nat.le_of_ble_eq_true rfl) (.inr ⟨.non, List.mem_cons_self, rfl⟩)
  generalize mset N16 p17 _ = N17 at b26 ⊢
  refine ⟨rfl, fun p18 hp18 => ?_⟩
  have gP5 : ∀ a b, Sm 99 a → Sm 99 b → GX shT (.tup [trL x, .int a, .int b]) 520 := fun a b ha hb => (gx_tup3 gL (gI a ha) (gI b hb)).le (by omega)
  have b27 := b26.lst (es := [.lst [pcD (x, l, h), pcD (x, l, l), pcD (x, l, h)]]) hp18 (show 1 ≤ 18 by decide) rfl (fun e he => by
    rw [List.mem_singleton] at he
    rw [he]
    exact (gx_lstN (n := 520) fun f hf => by
      simp only [List.mem_cons, List.not_mem_nil, or_false] at hf
      rcases hf with rfl | rfl | rfl
      · exact gP5 l h sl sh
      · exact gP5 l l sl sl
      · exact gP5 l h sl sh).le (show 3 * 522 + 2 ≤ 1600 by decide)) (by simp) (Nat.le_of_ble_eq_true rfl) (.inr ⟨_, List.mem_singleton.mpr rfl, rfl⟩)
  generalize mset N17 p18 _ = N18 at b27 ⊢
  simp only [List.nil_append, List.cons_append] at b27
  refine ⟨by decide, ?_⟩
  have dm : ∀ a, (M a).isSome = true → (N18 a).isSome = true := fun a ha => by
    cases e : M a with
    | none => rw [e] at ha; cases ha
    | some m => rw [b27.sub a m e]; rfl
  exact fin_lsO (M := M) N18 Sub.refl dm (fun d hd => by
    rcases b27.it d hd with ⟨p, es, t, e, hp, _⟩ | ⟨_, pu, _⟩
    · exact .inr ⟨p, e, by rw [hp]; rfl⟩
    · exact .inl pu) (hR _ _ b27)
abbrev N__law_cell : List Str := ["_law_script", "_law_index"]
theorem sc__law_cell : FnScope N__law_cell ["_law_script", "_law_index"] (defScope s__law_cell) := ⟨rfl, rfl, rfl, by decide +kernel, rfl, by decide +kernel, by decide +kernel⟩
def S__law_cell : DSp := fun ds M R _ => ∃ ns t, ds = [.scr ns, .int t] ∧ 0 ≤ t ∧ ∀ x : Int, R (.int x) M
theorem ok__law_cell {P : Program} {w : World} {K : PySem.W.Frag} {mg : Str → Option Value} {base : Heap} {C f : Addr} {fd : FuncData} (T : Txt K mg) (F : FunD K "_law_cell" "_law_cell" (defArgs s__law_cell) (defBody s__law_cell) (defScope s__law_cell) [] [] f fd)  : FnOk P w K mg base CX0 1 f fd ["_law_script", "_law_index"] (spD ⟨K, C⟩ 2 S__law_cell) := by
  have nd := sc__law_cell.nd
  refine fn_ok 2 2 F sc__law_cell (fun cdv A outer s H E hr =>
      (qss_cons (qs_if (qt_cmp c_lt (qv 1) (q_cb b_len rfl T.b_len bb_len (qa_cons (qv 0) qa_nil)))
        (qss_one (qs_ret (q_ix (qv 0) (qv 1))))
        qss_nil)
      (qss_one (qs_ret qi)))) ?_
  rintro ds M R - ⟨ns, t, rfl, ht, hR⟩
  walk_at "w"
  refine ⟨fun h => ?_, fun _ => fin_pure (hR 0)⟩
  obtain ⟨k, rfl⟩ := Int.eq_ofNat_of_zero_le ht
  rw [List.length_map] at h
  have hk : k < ns.length := by omega
  exact ⟨.int ns[k], at_int (List.getElem?_eq_getElem hk), fin_pure (hR _)⟩
abbrev N__law_generator : List Str := ["_law_script", "_law_index", "_law_seed"]
theorem sc__law_generator : FnScope N__law_generator ["_law_script", "_law_index"] (defScope s__law_generator) := ⟨rfl, rfl, rfl, by decide +kernel, rfl, by decide +kernel, by decide +kernel⟩
def S__law_generator : DSp := fun ds M R _ => ∃ ns t, ds = [.scr ns, .int t] ∧ 0 ≤ t ∧ t ≤ 1000000 ∧ ∀ p m, M p = none → PurseOk (1000 * t) m → R (.own p) (mset M p m)
theorem ok__law_generator {P : Program} {w : World} {K : PySem.W.Frag} {mg : Str → Option Value} {base : Heap} {C f : Addr} {fd : FuncData} (T : Txt K mg) (F : FunD K "_law_generator" "_law_generator" (defArgs s__law_generator) (defBody s__law_generator) (defScope s__law_generator) [] [] f fd) (h__law_cell : CallOk P w K mg base C 1 "_law_cell" 2 S__law_cell []) : FnOk P w K mg base CX0 2 f fd ["_law_script", "_law_index"] (spD ⟨K, C⟩ 2 S__law_generator) := by
  have nd := sc__law_generator.nd
  refine fn_ok 3 2 F sc__law_generator (fun cdv A outer s H E hr =>
      (qss_cons (qs_set (i := 2) nd (qc h__law_cell hr (by decide) (qa_cons (qv 0) (qa_cons (qv 1) qa_nil))))
      (qss_one (qs_ret (q_lstO (qa_cons (q_mod (q_ct b_int rfl T.b_int bb_int (qa_cons (q_cb b_max2 rfl T.b_max bb_max (qa_cons (q_sub (qv 2) (q_pow qi qi)) (qa_cons qi qa_nil))) qa_nil)) (q_pow (q_pow qi qi) qi)) (qa_cons (q_mod (q_ct b_int rfl T.b_int bb_int (qa_cons (qv 2) qa_nil)) qi) (qa_cons (q_mul qi (qv 1)) qa_nil)))))))) ?_
  rintro ds M R - ⟨ns, t, rfl, h0, h1, hR⟩
  walk_at "w"
  refine ⟨ns, t, rfl, h0, fun x => ?_⟩
  walk_at "w"
  refine ⟨by decide +kernel, mulL (by omega) (by omega), fun p hp => fin_own (hR p _ hp ⟨_, _, _, rfl, by omega, by omega⟩)⟩
abbrev N__law_hash : List Str := ["_law_seed", "_law_index", "_law_mixed"]
theorem sc__law_hash : FnScope N__law_hash ["_law_seed", "_law_index"] (defScope s__law_hash) := ⟨rfl, rfl, rfl, by decide +kernel, rfl, by decide +kernel, by decide +kernel⟩
def S__law_hash : DSp := fun ds M R _ => ∃ c k, ds = [.int c, .int k] ∧ 0 ≤ k ∧ k < 4611686018427387904 ∧ ∀ r : Int, R (.int r) M
theorem ok__law_hash {P : Program} {w : World} {K : PySem.W.Frag} {mg : Str → Option Value} {base : Heap} {C f : Addr} {fd : FuncData} (T : Txt K mg) (F : FunD K "_law_hash" "_law_hash" (defArgs s__law_hash) (defBody s__law_hash) (defScope s__law_hash) [] [] f fd)  : FnOk P w K mg base CX0 1 f fd ["_law_seed", "_law_index"] (spD ⟨K, C⟩ 2 S__law_hash) := by
  have nd := sc__law_hash.nd
  refine fn_ok 3 2 F sc__law_hash (fun cdv A outer s H E hr =>
      (qss_cons (qs_set (i := 2) nd (q_mod (q_ct b_int rfl T.b_int bb_int (qa_cons (q_add (q_add (q_add (q_mul (qv 0) qi) (q_mul (q_mul qi (qv 1)) (qv 1))) (qv 1)) qi) qa_nil)) qi))
      (qss_cons (qs_set (i := 2) nd (q_mod (q_ct b_int rfl T.b_int bb_int (qa_cons (q_add (q_mul (qv 2) (qv 2)) qi) qa_nil)) qi))
      (qss_one (qs_ret (q_mod (q_ct b_int rfl T.b_int bb_int (qa_cons (q_mul (qv 2) qi) qa_nil)) qi)))))) ?_
  rintro ds M R - ⟨c, k, rfl, h0, h1, hR⟩
  walk_at "v"
  have m2 : ∀ z : Int, Sm 64 (z % 2147483647) := fun z => sm64 (by omega) (by omega)
  refine ⟨mulR (by omega) (by omega), mulL (by omega) (by omega), mulR (by omega) (by omega), mul_okL (m2 _), mulR (by omega) (by omega), fin_pure (hR _)⟩
abbrev N__law_random : List Str := ["_law_generator_here", "_law_bound", "_law_drawn", "_law_part"]
theorem sc__law_random : FnScope N__law_random ["_law_generator_here", "_law_bound"] (defScope s__law_random) := ⟨rfl, rfl, rfl, by decide +kernel, rfl, by decide +kernel, by decide +kernel⟩
def S__law_random : DSp := fun ds M R _ => ∃ a n b m M0, ds = [.own a, .int n] ∧ M = mset M0 a m ∧ PurseOk b m ∧ b ≤ 1152921504606846976 ∧ 0 < n ∧ Sm 9000 n ∧ ∀ (d : Int) m', 0 ≤ d → d < n → PurseOk (b + 301) m' → R (.int d) (mset M0 a m')
theorem use_random {a : Addr} {n b : Int} {m : MO} {M0 : Mem} {R : DR} {X : DX} (hp : PurseOk b m) (hb : b ≤ 1152921504606846976) (hn : 0 < n) (hs : Sm 9000 n) (k : ∀ (d : Int) m', 0 ≤ d → d < n → PurseOk (b + 301) m' → R (.int d) (mset M0 a m')) : S__law_random [.own a, .int n] (mset M0 a m) R X := ⟨a, n, b, m, M0, rfl, rfl, hp, hb, hn, hs, k⟩
theorem ok__law_random {P : Program} {w : World} {K : PySem.W.Frag} {mg : Str → Option Value} {base : Heap} {C f : Addr} {fd : FuncData} (T : Txt K mg) (F : FunD K "_law_random" "_law_random" (defArgs s__law_random) (defBody s__law_random) (defScope s__law_random) [] [] f fd) (h__law_hash : CallOk P w K mg base C 1 "_law_hash" 2 S__law_hash []) : FnOk P w K mg base CX0 2 f fd ["_law_generator_here", "_law_bound"] (spD ⟨K, C⟩ 2 S__law_random) := by
  have nd := sc__law_random.nd
  refine fn_ok 4 2 F sc__law_random (fun cdv A outer s H E hr =>
      (qss_cons (qs_if (qt_cmp c_gt (q_ixC 0 (qv 0)) qi)
        (qss_cons (qs_set (i := 2) nd (q_mod (q_ct b_int rfl T.b_int bb_int (qa_cons (q_ixC 0 (qv 0)) qa_nil)) (qv 1)))
        (qss_cons (qs_asg (q_div (q_ixC 0 (qv 0)) (qv 1)) (qg_sub (qv 0) qi))
        (qss_one (qs_ret (qv 2)))))
        qss_nil)
      (qss_cons (qs_set (i := 2) nd qi)
      (qss_cons (qs_for (qi_rng1 T.b_range (qa_cons (q_add qi (q_div (q_bits (qv 1)) qi)) qa_nil)) (qg_name (i := 3) nd)
        (qss_cons (qs_asg (q_add (q_ixC 2 (qv 0)) qi) (qg_sub (qv 0) qi))
        (qss_one (qs_set (i := 2) nd (q_add (q_mul (qv 2) qi) (qc h__law_hash hr (by decide) (qa_cons (q_ixC 1 (qv 0)) (qa_cons (q_ixC 2 (qv 0)) qa_nil))))))))
      (qss_one (qs_ret (q_mod (q_ct b_int rfl T.b_int bb_int (qa_cons (qv 2) qa_nil)) (qv 1)))))))) ?_
  rintro ds _ R - ⟨a, n, b, m, M, rfl, rfl, ⟨g0, g1, g2, rfl, hg0, hg1⟩, hb, hn, hs, hR⟩
  have hbits := hs.bits
  walk_at "v"
  constructor
  · intro hpos
    refine ⟨hn, cd_ok hn hs (by omega), 0, rfl, ?_⟩
    exact fin_sw (hR _ _ (Int.emod_nonneg _ (by omega)) (Int.emod_lt_of_pos _ hn) ⟨_, _, _, rfl, hg0, by omega⟩)
  · intro hpos
    refine ⟨cdS (by omega) (by omega), by omega, by omega, fun i γ M' => ∃ num kk, γ = [some (.own a), some (.int n), some (.int num), kk] ∧ M' = mset M a (.lst [.int g0, .int g1, .int (g2 + i)]), ⟨0, none, rfl, ?_⟩, fun _ _ _ _ => trivial, ?_, ?_⟩
    · simp
    · rintro i d γ' M' ⟨num, kk, rfl, rfl⟩ hi
      obtain ⟨hi, rfl⟩ := (rngD_get _ _ _ _).mp hi
      walk_at "v"
      refine ⟨2, rfl, ?_⟩
      walk_at "v"
      refine ⟨mulR (by omega) (by omega), ?_⟩
      refine ⟨_, _, rfl, by omega, by omega, fun r => ?_⟩
      walk_at "v"
      refine ⟨_, _, rfl, ?_⟩
      have e : g2 + (i : Int) + 1 = g2 + ((i + 1 : Nat) : Int) := by omega
      rw [e]
    · rintro γ' M' ⟨num, kk, rfl, rfl⟩
      walk_at "v"
      rw [rngD_len]
      refine ⟨hn, fin_sw (hR _ _ (Int.emod_nonneg _ (by omega)) (Int.emod_lt_of_pos _ hn) ⟨_, _, _, rfl, by omega, by omega⟩)⟩
abbrev N__law_size : List Str := ["_law_generator_here"]
theorem sc__law_size : FnScope N__law_size ["_law_generator_here"] (defScope s__law_size) := ⟨rfl, rfl, rfl, by decide +kernel, rfl, by decide +kernel, by decide +kernel⟩
def S__law_size : DSp := fun ds M R _ => ∃ a b m M0, ds = [.own a] ∧ M = mset M0 a m ∧ PurseOk b m ∧ b ≤ 1000000000000000000 ∧ ∀ (k : Int) m', 4 ≤ k → k ≤ 10 ^ 29 → PurseOk (b + 301) m' → R (.int k) (mset M0 a m')
theorem use_size {a : Addr} {b : Int} {m : MO} {M0 : Mem} {R : DR} {X : DX} (hp : PurseOk b m) (hb : b ≤ 1000000000000000000) (k : ∀ (k : Int) m', 4 ≤ k → k ≤ 10 ^ 29 → PurseOk (b + 301) m' → R (.int k) (mset M0 a m')) : S__law_size [.own a] (mset M0 a m) R X := ⟨a, b, m, M0, rfl, rfl, hp, hb, k⟩
theorem ok__law_size {P : Program} {w : World} {K : PySem.W.Frag} {mg : Str → Option Value} {base : Heap} {C f : Addr} {fd : FuncData} (T : Txt K mg) (F : FunD K "_law_size" "_law_size" (defArgs s__law_size) (defBody s__law_size) (defScope s__law_size) [] [] f fd) (h__law_random : CallOk P w K mg base C 2 "_law_random" 2 S__law_random []) : FnOk P w K mg base CX0 3 f fd ["_law_generator_here"] (spD ⟨K, C⟩ 1 S__law_size) := by
  have nd := sc__law_size.nd
  refine fn_ok 1 1 F sc__law_size (fun cdv A outer s H E hr =>
      (qss_one (qs_ret (q_ix (q_lst (qa_cons qi (qa_cons qi (qa_cons qi (qa_cons (q_pow qi qi) (qa_cons (q_pow qi qi) (qa_cons (q_pow qi qi) qa_nil))))))) (qc h__law_random hr (by decide) (qa_cons (qv 0) (qa_cons qi qa_nil))))))) ?_
  rintro ds _ R - ⟨a, b, m, M, rfl, rfl, hp, hb, hR⟩
  walk_at "w"
  refine use_random hp (by omega) (by omega) (sm_small (by omega) (by omega)) fun y m1 y0 y1 hm1 => ?_
  walk_at "w"
  have hy : ∃ k : Int, atI [D.int 4, D.int 10, D.int 100, D.int (10 ^ 6), D.int (10 ^ 15), D.int (10 ^ 29)] y = some (.int k) ∧ 4 ≤ k ∧ k ≤ 10 ^ 29 := by
    have hy : y = 0 ∨ y = 1 ∨ y = 2 ∨ y = 3 ∨ y = 4 ∨ y = 5 := by omega
    rcases hy with rfl | rfl | rfl | rfl | rfl | rfl <;> exact ⟨_, rfl, by decide, by decide⟩
  obtain ⟨k, ek, k0, k1⟩ := hy
  exact ⟨_, ek, fin_sw (hR k m1 k0 k1 hm1)⟩
abbrev N__law_signed : List Str := ["_law_generator_here", "_law_size_here"]
theorem sc__law_signed : FnScope N__law_signed ["_law_generator_here"] (defScope s__law_signed) := ⟨rfl, rfl, rfl, by decide +kernel, rfl, by decide +kernel, by decide +kernel⟩
def S__law_signed : DSp := fun ds M R _ => ∃ a b m M0, ds = [.own a] ∧ M = mset M0 a m ∧ PurseOk b m ∧ b ≤ 1000000000000000000 ∧ ∀ (x : Int) m', B29 x → PurseOk (b + 602) m' → R (.int x) (mset M0 a m')
theorem use_signed {a : Addr} {b : Int} {m : MO} {M0 : Mem} {R : DR} {X : DX} (hp : PurseOk b m) (hb : b ≤ 1000000000000000000) (k : ∀ (x : Int) m', B29 x → PurseOk (b + 602) m' → R (.int x) (mset M0 a m')) : S__law_signed [.own a] (mset M0 a m) R X := ⟨a, b, m, M0, rfl, rfl, hp, hb, k⟩
theorem ok__law_signed {P : Program} {w : World} {K : PySem.W.Frag} {mg : Str → Option Value} {base : Heap} {C f : Addr} {fd : FuncData} (T : Txt K mg) (F : FunD K "_law_signed" "_law_signed" (defArgs s__law_signed) (defBody s__law_signed) (defScope s__law_signed) [] [] f fd) (h__law_size : CallOk P w K mg base C 3 "_law_size" 1 S__law_size []) (h__law_random : CallOk P w K mg base C 2 "_law_random" 2 S__law_random []) : FnOk P w K mg base CX0 4 f fd ["_law_generator_here"] (spD ⟨K, C⟩ 1 S__law_signed) := by
  have nd := sc__law_signed.nd
  refine fn_ok 2 1 F sc__law_signed (fun cdv A outer s H E hr =>
      (qss_cons (qs_set (i := 1) nd (qc h__law_size hr (by decide) (qa_cons (qv 0) qa_nil)))
      (qss_one (qs_ret (q_sub (qc h__law_random hr (by decide) (qa_cons (qv 0) (qa_cons (q_add (q_mul qi (qv 1)) qi) qa_nil))) (qv 1)))))) ?_
  rintro ds _ R - ⟨a, b, m, M, rfl, rfl, hp, hb, hR⟩
  walk_at "w"
  refine use_size hp (by omega) fun k m1 k0 k1 hm1 => ?_
  walk_at "w"
  refine ⟨mulL (by decide) (by decide), use_random hm1 (by omega) (by omega) ((Sm.le (show Sm 99 (2 * 10 ^ 29 + 1) by decide +kernel) (by omega) (by omega)).mono (by decide)) fun x m2 x0 x1 hm2 => ?_⟩
  walk_at "w"
  exact fin_sw (hR _ m2 ⟨by omega, by omega⟩ (hm2.mono (by omega)))
abbrev N__law_parts : List Str := ["_law_generator_here", "_law_over", "_law_times", "_law_plus"]
theorem sc__law_parts : FnScope N__law_parts ["_law_generator_here"] (defScope s__law_parts) := ⟨rfl, rfl, rfl, by decide +kernel, rfl, by decide +kernel, by decide +kernel⟩
def S__law_parts : DSp := fun ds M R _ => ∃ a b m M0, ds = [.own a] ∧ M = mset M0 a m ∧ PurseOk b m ∧ b ≤ 900000000000000000 ∧ ∀ (x : Tr) m', PtOk x → PurseOk (b + 3612) m' → R (trD x) (mset M0 a m')
theorem use_parts {a : Addr} {b : Int} {m : MO} {M0 : Mem} {R : DR} {X : DX} (hp : PurseOk b m) (hb : b ≤ 900000000000000000) (k : ∀ (x : Tr) m', PtOk x → PurseOk (b + 3612) m' → R (trD x) (mset M0 a m')) : S__law_parts [.own a] (mset M0 a m) R X := ⟨a, b, m, M0, rfl, rfl, hp, hb, k⟩
theorem ok__law_parts {P : Program} {w : World} {K : PySem.W.Frag} {mg : Str → Option Value} {base : Heap} {C f : Addr} {fd : FuncData} (T : Txt K mg) (F : FunD K "_law_parts" "_law_parts" (defArgs s__law_parts) (defBody s__law_parts) (defScope s__law_parts) [] [] f fd) (h__law_random : CallOk P w K mg base C 2 "_law_random" 2 S__law_random []) (h__law_size : CallOk P w K mg base C 3 "_law_size" 1 S__law_size []) (h__law_signed : CallOk P w K mg base C 4 "_law_signed" 1 S__law_signed []) : FnOk P w K mg base CX0 5 f fd ["_law_generator_here"] (spD ⟨K, C⟩ 1 S__law_parts) := by
  have nd := sc__law_parts.nd
  refine fn_ok 4 1 F sc__law_parts (fun cdv A outer s H E hr =>
      (qss_cons (qs_set (i := 1) nd (q_add qi (qc h__law_random hr (by decide) (qa_cons (qv 0) (qa_cons (qc h__law_size hr (by decide) (qa_cons (qv 0) qa_nil)) qa_nil)))))
      (qss_cons (qs_set (i := 2) nd (q_lst (qa_cons qi (qa_cons (q_neg qi) (qa_cons (qc h__law_random hr (by decide) (qa_cons (qv 0) (qa_cons (q_add (qv 1) qi) qa_nil))) (qa_cons (q_sub qi (qc h__law_random hr (by decide) (qa_cons (qv 0) (qa_cons (q_add (qv 1) qi) qa_nil)))) qa_nil))))))
      (qss_cons (qs_set (i := 2) nd (q_add (qv 2) (q_lst (qa_cons (qc h__law_signed hr (by decide) (qa_cons (qv 0) qa_nil)) (qa_cons (q_add qi (qc h__law_random hr (by decide) (qa_cons (qv 0) (qa_cons qi qa_nil)))) qa_nil)))))
      (qss_cons (qs_set (i := 3) nd (q_lst (qa_cons qi (qa_cons (qc h__law_random hr (by decide) (qa_cons (qv 0) (qa_cons (qv 1) qa_nil))) (qa_cons (qc h__law_signed hr (by decide) (qa_cons (qv 0) qa_nil)) qa_nil)))))
      (qss_one (qs_ret (q_tup (qa_cons (q_ix (qv 2) (qc h__law_random hr (by decide) (qa_cons (qv 0) (qa_cons qi qa_nil)))) (qa_cons (q_ix (qv 3) (qc h__law_random hr (by decide) (qa_cons (qv 0) (qa_cons qi qa_nil)))) (qa_cons (qv 1) qa_nil))))))))))) ?_
  rintro ds _ R - ⟨a, b, m, M, rfl, rfl, hp, hb, hR⟩
  have sm : ∀ x : Int, 0 ≤ x → x ≤ 10 ^ 29 + 1 → Sm 9000 x := fun x h0 h1 => (Sm.le (show Sm 99 (10 ^ 29 + 1) by decide +kernel) h0 h1).mono (by decide)
  walk_at "w"
  refine use_size hp (by omega) fun k m1 k0 k1 hm1 => ?_
  walk_at "w"
  refine use_random hm1 (by omega) (by omega) (sm _ (by omega) (by omega)) fun o m2 o0 o1 hm2 => ?_
  walk_at "w"
  refine use_random hm2 (by omega) (by omega) (sm _ (by omega) (by omega)) fun a1 m3 a10 a11 hm3 => ?_
  walk_at "w"
  refine use_random hm3 (by omega) (by omega) (sm _ (by omega) (by omega)) fun a2 m4 a20 a21 hm4 => ?_
  walk_at "w"
  refine use_signed hm4 (by omega) fun a3 m5 ha3 hm5 => ?_
  walk_at "w"
  refine use_random hm5 (by omega) (by omega) (sm_small (by omega) (by omega)) fun a4 m6 a40 a41 hm6 => ?_
  walk_at "w"
  refine use_random hm6 (by omega) (by omega) (sm _ (by omega) (by omega)) fun c1 m7 c10 c11 hm7 => ?_
  walk_at "w"
  refine use_signed hm7 (by omega) fun c2 m8 hc2 hm8 => ?_
  walk_at "w"
  refine use_random hm8 (by omega) (by omega) (sm_small (by omega) (by omega)) fun y m9 y0 y1 hm9 => ?_
  walk_at "w"
  have ht : ∃ t : Int, atI [D.int 1, D.int (-1), D.int a1, D.int (0 - a2), D.int a3, D.int (1 + a4)] y = some (.int t) ∧ B29 t := by
    have hy : y = 0 ∨ y = 1 ∨ y = 2 ∨ y = 3 ∨ y = 4 ∨ y = 5 := by omega
    rcases hy with rfl | rfl | rfl | rfl | rfl | rfl
    · exact ⟨_, rfl, by decide, by decide⟩
    · exact ⟨_, rfl, by decide, by decide⟩
    · exact ⟨_, rfl, by omega, by omega⟩
    · exact ⟨_, rfl, by omega, by omega⟩
    · exact ⟨_, rfl, ha3⟩
    · exact ⟨_, rfl, by omega, by omega⟩
  obtain ⟨t, et, bt⟩ := ht
  refine ⟨_, et, ?_⟩
  refine use_random hm9 (by omega) (by omega) (sm_small (by omega) (by omega)) fun z m10 z0 z1 hm10 => ?_
  walk_at "w"
  have hp : ∃ p : Int, atI [D.int 0, D.int c1, D.int c2] z = some (.int p) ∧ B29 p := by
    have hz : z = 0 ∨ z = 1 ∨ z = 2 := by omega
    rcases hz with rfl | rfl | rfl
    · exact ⟨_, rfl, by decide, by decide⟩
    · exact ⟨_, rfl, by omega, by omega⟩
    · exact ⟨_, rfl, hc2⟩
  obtain ⟨p, ep, bp⟩ := hp
  refine ⟨_, ep, fin_sw (hR (t, p, 1 + o) m10 ⟨bt, bp, ⟨by show _ ≤ 1 + o; omega, by show 1 + o ≤ _; omega⟩, by show 1 ≤ 1 + o; omega⟩ (hm10.mono (by omega)))⟩
abbrev N__law_ends : List Str := ["_law_generator_here", "_law_over", "_law_low", "_law_many"]
theorem sc__law_ends : FnScope N__law_ends ["_law_generator_here", "_law_over"] (defScope s__law_ends) := ⟨rfl, rfl, rfl, by decide +kernel, rfl, by decide +kernel, by decide +kernel⟩
def S__law_ends : DSp := fun ds M R _ => ∃ a o b m M0, ds = [.own a, .int o] ∧ M = mset M0 a m ∧ 1 ≤ o ∧ o ≤ 10 ^ 29 ∧ PurseOk b m ∧ b ≤ 900000000000000000 ∧ ∀ (l h : Int) m', l < h → B29 l → h ≤ 3 * 10 ^ 29 → PurseOk (b + 3311) m' → R (.tup [.int l, .int h]) (mset M0 a m')
theorem ok__law_ends {P : Program} {w : World} {K : PySem.W.Frag} {mg : Str → Option Value} {base : Heap} {C f : Addr} {fd : FuncData} (T : Txt K mg) (F : FunD K "_law_ends" "_law_ends" (defArgs s__law_ends) (defBody s__law_ends) (defScope s__law_ends) [] [] f fd) (h__law_signed : CallOk P w K mg base C 4 "_law_signed" 1 S__law_signed []) (h__law_random : CallOk P w K mg base C 2 "_law_random" 2 S__law_random []) (h__law_size : CallOk P w K mg base C 3 "_law_size" 1 S__law_size []) : FnOk P w K mg base CX0 5 f fd ["_law_generator_here", "_law_over"] (spD ⟨K, C⟩ 2 S__law_ends) := by
  have nd := sc__law_ends.nd
  refine fn_ok 4 2 F sc__law_ends (fun cdv A outer s H E hr =>
      (qss_cons (qs_set (i := 2) nd (q_ix (q_lst (qa_cons qi (qa_cons qi (qa_cons (q_sub qi (qc h__law_random hr (by decide) (qa_cons (qv 0) (qa_cons qi qa_nil)))) (qa_cons (qc h__law_signed hr (by decide) (qa_cons (qv 0) qa_nil)) qa_nil))))) (qc h__law_random hr (by decide) (qa_cons (qv 0) (qa_cons qi qa_nil)))))
      (qss_cons (qs_set (i := 3) nd (q_lst (qa_cons qi (qa_cons (q_add qi (qc h__law_random hr (by decide) (qa_cons (qv 0) (qa_cons qi qa_nil)))) (qa_cons (q_add qi (qc h__law_random hr (by decide) (qa_cons (qv 0) (qa_cons qi qa_nil)))) (qa_cons (q_add qi (qc h__law_random hr (by decide) (qa_cons (qv 0) (qa_cons (qv 1) qa_nil)))) qa_nil))))))
      (qss_cons (qs_set (i := 3) nd (q_add (qv 3) (q_lst (qa_cons (q_add (qv 1) (qc h__law_random hr (by decide) (qa_cons (qv 0) (qa_cons (qv 1) qa_nil)))) (qa_cons (q_add qi (qc h__law_random hr (by decide) (qa_cons (qv 0) (qa_cons (qc h__law_size hr (by decide) (qa_cons (qv 0) qa_nil)) qa_nil)))) qa_nil)))))
      (qss_one (qs_ret (q_tup (qa_cons (qv 2) (qa_cons (q_add (qv 2) (q_ix (qv 3) (qc h__law_random hr (by decide) (qa_cons (qv 0) (qa_cons qi qa_nil))))) qa_nil))))))))) ?_
  rintro ds _ R - ⟨a, o, b, m, M, rfl, rfl, ho, ho2, hp, hb, hR⟩
  have sm : ∀ x : Int, 0 ≤ x → x ≤ 10 ^ 29 + 1 → Sm 9000 x := fun x h0 h1 => (Sm.le (show Sm 99 (10 ^ 29 + 1) by decide +kernel) h0 h1).mono (by decide)
  walk_at "w"
  refine use_random hp (by omega) (by omega) (sm_small (by omega) (by omega)) fun a1 m1 a10 a11 hm1 => ?_
  walk_at "w"
  refine use_signed hm1 (by omega) fun a2 m2 ha2 hm2 => ?_
  walk_at "w"
  refine use_random hm2 (by omega) (by omega) (sm_small (by omega) (by omega)) fun y m3 y0 y1 hm3 => ?_
  walk_at "w"
  have hl : ∃ l : Int, atI [D.int 0, D.int 0, D.int (0 - a1), D.int a2] y = some (.int l) ∧ B29 l := by
    have hy : y = 0 ∨ y = 1 ∨ y = 2 ∨ y = 3 := by omega
    rcases hy with rfl | rfl | rfl | rfl
    · exact ⟨_, rfl, by decide, by decide⟩
    · exact ⟨_, rfl, by decide, by decide⟩
    · exact ⟨_, rfl, by omega, by omega⟩
    · exact ⟨_, rfl, ha2⟩
  obtain ⟨l, el, bl⟩ := hl
  refine ⟨_, el, ?_⟩
  walk_at "w"
  refine use_random hm3 (by omega) (by omega) (sm_small (by omega) (by omega)) fun c1 m4 c10 c11 hm4 => ?_
  walk_at "w"
  refine use_random hm4 (by omega) (by omega) (sm_small (by omega) (by omega)) fun c2 m5 c20 c21 hm5 => ?_
  walk_at "w"
  refine use_random hm5 (by omega) (by omega) (sm _ (by omega) (by omega)) fun c3 m6 c30 c31 hm6 => ?_
  walk_at "w"
  refine use_random hm6 (by omega) (by omega) (sm _ (by omega) (by omega)) fun c4 m7 c40 c41 hm7 => ?_
  walk_at "w"
  refine use_size hm7 (by omega) fun k m8 k0 k1 hm8 => ?_
  walk_at "w"
  refine use_random hm8 (by omega) (by omega) (sm _ (by omega) (by omega)) fun c5 m9 c50 c51 hm9 => ?_
  walk_at "w"
  refine use_random hm9 (by omega) (by omega) (sm_small (by omega) (by omega)) fun z m10 z0 z1 hm10 => ?_
  walk_at "w"
  have hn : ∃ n : Int, atI [D.int 1, D.int (1 + c1), D.int (1 + c2), D.int (1 + c3), D.int (o + c4), D.int (1 + c5)] z = some (.int n) ∧ 1 ≤ n ∧ n ≤ 2 * 10 ^ 29 := by
    have hz : z = 0 ∨ z = 1 ∨ z = 2 ∨ z = 3 ∨ z = 4 ∨ z = 5 := by omega
    rcases hz with rfl | rfl | rfl | rfl | rfl | rfl
    · exact ⟨_, rfl, by decide, by decide⟩
    · exact ⟨_, rfl, by omega, by omega⟩
    · exact ⟨_, rfl, by omega, by omega⟩
    · exact ⟨_, rfl, by omega, by omega⟩
    · exact ⟨_, rfl, by omega, by omega⟩
    · exact ⟨_, rfl, by omega, by omega⟩
  obtain ⟨n, en, n0, n1⟩ := hn
  refine ⟨_, en, ?_⟩
  walk_at "w"
  exact fin_sw (hR l (l + n) m10 (by omega) bl (by have := bl.2; omega) (hm10.mono (by omega)))
abbrev N__law_task : List Str := ["_law_generator_here", "_law_parts_here", "_law_low", "_law_high"]
theorem sc__law_task : FnScope N__law_task ["_law_generator_here"] (defScope s__law_task) := ⟨rfl, rfl, rfl, by decide +kernel, rfl, by decide +kernel, by decide +kernel⟩
def S__law_task : DSp := fun ds M R _ => ∃ a b m M0, ds = [.own a] ∧ M = mset M0 a m ∧ PurseOk b m ∧ b ≤ 800000000000000000 ∧ ∀ (x : Tr) (l h : Int) m', PtOk x → l < h → B29 l → h ≤ 3 * 10 ^ 29 → PurseOk (b + 6923) m' → R (.tup [trD x, .int l, .int h]) (mset M0 a m')
theorem ok__law_task {P : Program} {w : World} {K : PySem.W.Frag} {mg : Str → Option Value} {base : Heap} {C f : Addr} {fd : FuncData} (T : Txt K mg) (F : FunD K "_law_task" "_law_task" (defArgs s__law_task) (defBody s__law_task) (defScope s__law_task) [] [] f fd) (h__law_parts : CallOk P w K mg base C 5 "_law_parts" 1 S__law_parts []) (h__law_ends : CallOk P w K mg base C 5 "_law_ends" 2 S__law_ends []) : FnOk P w K mg base CX0 6 f fd ["_law_generator_here"] (spD ⟨K, C⟩ 1 S__law_task) := by
  have nd := sc__law_task.nd
  refine fn_ok 4 1 F sc__law_task (fun cdv A outer s H E hr =>
      (qss_cons (qs_set (i := 1) nd (qc h__law_parts hr (by decide) (qa_cons (qv 0) qa_nil)))
      (qss_cons (qs_asg (qc h__law_ends hr (by decide) (qa_cons (qv 0) (qa_cons (q_ixC 2 (qv 1)) qa_nil))) (qg_tup (n := 2) (qgs_cons (qg_name (i := 2) nd) (qgs_cons (qg_name (i := 3) nd) qgs_nil))))
      (qss_one (qs_ret (q_tup (qa_cons (qv 1) (qa_cons (qv 2) (qa_cons (qv 3) qa_nil))))))))) ?_
  rintro ds _ R - ⟨a, b, m, M, rfl, rfl, hp, hb, hR⟩
  walk_at "w"
  refine use_parts hp (by omega) fun x m1 hx hm1 => ?_
  simp only [trD]
  walk_at "w"
  refine ⟨a, _, _, m1, M, rfl, rfl, hx.o1, hx.o.2, hm1, by omega, fun l h m2 hlh bl bh hm2 => ?_⟩
  walk_at "w"
  exact fin_sw (hR x l h m2 hx hlh bl bh (hm2.mono (by omega)))
abbrev N_Line___add__ : List Str := ["self", "other"]
theorem sc_Line___add__ : FnScope N_Line___add__ ["self", "other"] (defScope s_Line___add__) := ⟨rfl, rfl, rfl, by decide +kernel, rfl, by decide +kernel, by decide +kernel⟩
def S_Line___add__ : DSp := fun ds M R _ => ∃ t p o k, ds = [.ln t p o, .int k] ∧ 1 ≤ o ∧ IntMulOk k o ∧ R (.ln t (p + k * o) o) M
theorem ok_Line___add__ {P : Program} {w : World} {K : PySem.W.Frag} {mg : Str → Option Value} {base : Heap} {C f : Addr} {fd : FuncData} (T : Txt K mg) (F : FunD K "__add__" "Line.__add__" (defArgs s_Line___add__) (defBody s_Line___add__) (defScope s_Line___add__) [] [] f fd) (h_is_whole : CallOk P w K mg base C 1 "is_whole" 1 S_is_whole []) (h_Line : LMk P w K mg base C 3) (hp_over : POk P w K mg base C 1 "over" S_Line_over) (hp_plus : POk P w K mg base C 1 "plus" S_Line_plus) (hp_times : POk P w K mg base C 1 "times" S_Line_times) : FnOk P w K mg base CX0 5 f fd ["self", "other"] (spD ⟨K, C⟩ 2 S_Line___add__) := by
  have nd := sc_Line___add__.nd
  refine fn_ok 2 2 F sc_Line___add__ (fun cdv A outer s H E hr =>
      (qss_cons (qs_if (qt_not (qt_val (qc h_is_whole hr (by decide) (qa_cons (qv 1) qa_nil))))
        (qss_one qs_never)
        qss_nil)
      (qss_one (qs_ret (q_line h_Line hr (by decide) (qa_cons (q_prop hp_times hr (by decide) (qv 0)) (qa_cons (q_add (q_prop hp_plus hr (by decide) (qv 0)) (q_mul (qv 1) (q_prop hp_over hr (by decide) (qv 0)))) (qa_cons (q_prop hp_over hr (by decide) (qv 0)) qa_nil)))))))) ?_
  rintro ds M R - ⟨t, p, o, k, rfl, ho, hm, hR⟩
  walk_at "w"
  refine ⟨_, rfl, rfl, ?_⟩
  walk_at "w"
  refine ⟨_, _, _, rfl, ?_⟩
  walk_at "w"
  refine ⟨_, _, _, rfl, ?_⟩
  walk_at "w"
  refine ⟨_, _, _, rfl, ?_⟩
  walk_at "w"
  refine ⟨hm, _, _, _, rfl, ?_⟩
  walk_at "w"
  exact ⟨ho, fin_pure hR⟩
abbrev N__law_bases_right : List Str := ["_law_line_here", "_law_low", "_law_high", "_law_good", "_law_root", "_law_some", "_law_way", "_law_caught_here"]
theorem sc__law_bases_right : FnScope N__law_bases_right ["_law_line_here", "_law_low", "_law_high", "_law_good"] (defScope s__law_bases_right) := ⟨rfl, rfl, rfl, by decide +kernel, rfl, by decide +kernel, by decide +kernel⟩
def rtL : List D := [.non, .int 0, .int 1, .int 37, .bl true, .str "2"]
def baseB : D → Bool
  | .int i => decide (2 ≤ i) && decide (i ≤ 36)
  | _ => false
theorem rt_all : rtL.all (fun d => !baseB d && (tyL d && (pureD d && okSh d))) = true := by decide +kernel
theorem rt_of {d : D} (h : d ∈ rtL) : ¬ BaseD d ∧ tyL d = true ∧ pureD d = true ∧ ShS d := by
  have := List.all_eq_true.mp rt_all d h
  simp only [Bool.and_eq_true, Bool.not_eq_true'] at this
  refine ⟨fun ⟨i, e, b2, b36⟩ => ?_, this.2.1, this.2.2.1, okSh_ok this.2.2.2⟩
  have q := this.1
  rw [e] at q
  have q : (decide (2 ≤ i) && decide (i ≤ 36)) = false := q
  rw [decide_eq_true b2, decide_eq_true b36] at q
  cases q
def S__law_bases_right : DSp := fun ds M R _ => ∃ (x : Tr) (l h : Int) (P : List Pc), ds = [trL x, .int l, .int h, .lst (P.map pcD)] ∧ GdPs P ∧ PcOk (x, l, h) ∧ PcOk (x, l, l) ∧ PcOk (x, h, h) ∧ PcOk ((x.1, x.2.1 + 1 * x.2.2, x.2.2), l, l) ∧ R (.bl true) M
theorem ok__law_bases_right {P : Program} {w : World} {K : PySem.W.Frag} {mg : Str → Option Value} {base : Heap} {C f : Addr} {fd : FuncData} (T : Txt K mg) (F : FunD K "_law_bases_right" "_law_bases_right" (defArgs s__law_bases_right) (defBody s__law_bases_right) (defScope s__law_bases_right) [] [] f fd) (hu___add__ : UOk P w K mg base C 5 "__add__" 2 S_Line___add__) (hb_Add : BinF K C .Add) (h__law_caught : CallOk P w K mg base C 13 "_law_caught" 4 S__law_caught []) (hur___repr__ : UOk P w K mg base C 3 "__repr__" 1 S_Line___repr__) (h_ex : ExAll K mg csL tsL) : FnG P w K mg base CX0 14 f fd ["_law_line_here", "_law_low", "_law_high", "_law_good"] (spD ⟨K, C⟩ 4 S__law_bases_right) := by
  have nd := sc__law_bases_right.nd
  refine fn_okG 8 4 F sc__law_bases_right (fun cdv A outer s H E hr hgu =>
      (qss_cons (qs_for (qi_list (q_lst (qa_cons qn (qa_cons qi (qa_cons qi (qa_cons qi (qa_cons qb (qa_cons qs qa_nil)))))))) (qg_name (i := 4) nd)
        (qss_one (qs_for (qi_list (q_lst (qa_cons (qv 3) (qa_cons (q_lst (qa_cons (q_tup (qa_cons (qv 0) (qa_cons (qv 1) (qa_cons (qv 2) qa_nil)))) (qa_cons (q_tup (qa_cons (q_binL hu___add__ hb_Add hr (by decide) (qv 0) qi) (qa_cons (qv 1) (qa_cons (qv 1) qa_nil)))) qa_nil))) (qa_cons (q_lst (qa_cons (q_tup (qa_cons (qv 0) (qa_cons (qv 1) (qa_cons (qv 1) qa_nil)))) qa_nil)) (qa_cons (q_rep (q_lst (qa_cons (q_tup (qa_cons (qv 0) (qa_cons (qv 2) (qa_cons (qv 2) qa_nil)))) qa_nil)) qi) qa_nil)))))) (qg_name (i := 5) nd)
          (qss_one (qs_for (qi_list (q_lst (qa_cons qi (qa_cons qi qa_nil)))) (qg_name (i := 6) nd)
            (qss_cons (qs_set (i := 7) nd (qc h__law_caught hr (by decide) (qa_cons (qv 6) (qa_cons (qv 5) (qa_cons (q_tup (qa_cons qi (qa_cons qi (qa_cons qi qa_nil)))) (qa_cons (qv 4) qa_nil))))))
            (qss_one (qs_if (QW.qt (qw_or (qt_not (qt_val (q_isX (t := "InvalidNumber") h_ex (by decide +kernel) (qv 7) rfl T.b_isinstance bb_isinstance))) (qw_or1 (qt_cmp (c_ne hr) (q_cb (b_reprX hur___repr__ hr (by decide) hgu) rfl T.b_repr bb_repr (qa_cons (q_fld (f := "value") h_ex (qv 7)) qa_nil)) (q_cb (b_reprX hur___repr__ hr (by decide) hgu) rfl T.b_repr bb_repr (qa_cons (qv 4) qa_nil))))))
              (qss_one (qs_ret qb))
              qss_nil))))))))
      (qss_one (qs_ret qb)))) ?_
  rintro ds M R - ⟨x, l, h, P, rfl, G, k1, k2, k3, k4, hR⟩
  simp only [trL]
  walk_at "w"
  have inN : Str.ofString "InvalidNumber" ∈ csL := by decide +kernel
  refine vfor_list rtL (fun F z => by walk_at "w"; exact z) (fun _ γ M' => M' = M ∧ ∃ y4 y5 y6 y7, γ = [some (D.ln x.1 x.2.1 x.2.2), some (D.int l), some (D.int h), some (D.lst (List.map pcD P)), y4, y5, y6, y7]) ⟨rfl, _, _, _, _, rfl⟩ ?_ ?_
  · rintro i d _ M1 ⟨hM, y4, y5, y6, y7, rfl⟩ hd
    subst M1
    obtain ⟨nb, td, pd, q, sq, tq⟩ := rt_of (List.mem_of_getElem? hd)
    walk_at "w"
    have o1 := k1.d.o1
    simp only at o1
    refine vfor_list [.lst (P.map pcD), .lst ([(x, l, h), ((x.1, x.2.1 + 1 * x.2.2, x.2.2), l, l)].map pcD), .lst ([(x, l, l)].map pcD), .lst ([(x, h, h), (x, h, h)].map pcD)] (fun F z => ?_) (fun _ γ M' => M' = M ∧ ∃ y5 y6 y7, γ = [some (D.ln x.1 x.2.1 x.2.2), some (D.int l), some (D.int h), some (D.lst (List.map pcD P)), some d, y5, y6, y7]) ⟨rfl, _, _, _, rfl⟩ ?_ ?_
    · walk_at "w"
      exact ⟨_, _, _, _, rfl, o1, mulL (by decide) (by decide), by decide, by decide, z⟩
    · rintro j e _ M1 ⟨hM, y5, y6, y7, rfl⟩ he
      subst M1
      obtain ⟨P', rfl, G'⟩ : ∃ P', e = .lst (P'.map pcD) ∧ GdPs P' := by
        have g1 : ∀ p : Pc, PcOk p → GdPs [p] := fun p hp => ⟨fun q hq => by simp at hq; rw [hq]; exact hp, by simp, by simp⟩
        have g2 : ∀ p p' : Pc, PcOk p → PcOk p' → GdPs [p, p'] := fun p p' hp hp' => ⟨fun q hq => by simp at hq; rcases hq with rfl | rfl <;> assumption, by simp, by simp⟩
        match j, he with
        | 0, he => exact ⟨P, (Option.some.inj he).symm, G⟩
        | 1, he => exact ⟨[(x, l, h), ((x.1, x.2.1 + 1 * x.2.2, x.2.2), l, l)], (Option.some.inj he).symm, g2 _ _ k1 k4⟩
        | 2, he => exact ⟨[(x, l, l)], (Option.some.inj he).symm, g1 _ k2⟩
        | 3, he => exact ⟨[(x, h, h), (x, h, h)], (Option.some.inj he).symm, g2 _ _ k3 k3⟩
        | j + 4, he => simp at he
      walk_at "w"
      refine vfor_list [.int 3, .int 4] (fun F z => by walk_at "w"; exact z) (fun _ γ M' => M' = M ∧ ∃ y6 y7, γ = [some (D.ln x.1 x.2.1 x.2.2), some (D.int l), some (D.int h), some (D.lst (List.map pcD P)), some d, some (.lst (P'.map pcD)), y6, y7]) ⟨rfl, _, _, rfl⟩ ?_ ?_
      · rintro k f _ M1 ⟨hM, y6, y7, rfl⟩ hf
        subst M1
        obtain ⟨w, rfl, hw⟩ : ∃ w : Nat, f = .int w ∧ (w = 3 ∨ w = 4) := by
          match k, hf with
          | 0, hf => simp at hf; exact ⟨3, hf.symm, .inl rfl⟩
          | 1, hf => simp at hf; exact ⟨4, hf.symm, .inr rfl⟩
          | k + 2, hf => simp at hf
        walk_at "w"
        refine ⟨w, _, _, d, rfl, by omega, .inr ⟨P', rfl, G', .inr (.inl ⟨hw.imp id fun z => ⟨z, rfl⟩, td, pd, nb, ?_⟩)⟩⟩
        refine ⟨inN, fun z => absurd z (by decide +kernel), fun _ => ⟨inN, nf_InvalidNumber, fl_InvalidNumber, .inl ⟨q, sq, .inl ⟨q, sq, ?_⟩⟩⟩⟩
        refine eqG_self (d := .str q.shown) tq ?_
        exact ⟨fun z => (by cases z), fun _ => ⟨rfl, _, _, rfl⟩⟩
      · rintro _ _ ⟨rfl, y6, y7, rfl⟩
        exact ⟨rfl, _, _, _, rfl⟩
    · rintro _ _ ⟨rfl, y5, y6, y7, rfl⟩
      exact ⟨rfl, _, _, _, _, rfl⟩
  rintro _ _ ⟨rfl, y4, y5, y6, y7, rfl⟩
  walk_at "w"
  exact fin_pure hR
abbrev N_law : List Str := ["_law_script", "_law_generator_here", "_law_parts_here", "_law_low", "_law_high", "_law_line_here", "_law_good", "_law_way", "_law_some", "_law_root", "_law_made", "_law_caught_here", "_law_value"]
theorem sc_law : FnScope N_law ["_law_script"] (defScope s_law) := ⟨rfl, rfl, rfl, by decide +kernel, rfl, by decide +kernel, by decide +kernel⟩
def S_law : DSp := fun ds M R _ => ∃ ns, ds = [.scr ns] ∧ ∀ M', R (.bl true) M'
theorem law_true (ns : List Int) (_ : ns.length ≤ 63) (M : Mem) (R : DR) (X : DX) (h : ∀ M', R (.bl true) M') : S_law [.scr ns] M R X := ⟨ns, rfl, h⟩
theorem own_drop {vals : List D} {i : Nat} {q : Addr} (di : (vals.filterMap ownA).Nodup) (h : vals[i]? = some (.own q)) : ∀ d ∈ vals.drop (i + 1), d ≠ .own q := by
  intro d hd e
  subst e
  obtain ⟨hi, hv⟩ := List.getElem?_eq_some_iff.mp h
  have e1 : vals.drop i = .own q :: vals.drop (i + 1) := by rw [List.drop_eq_getElem_cons hi, hv]
  have nd : ((vals.drop i).filterMap ownA).Nodup := di.sublist ((List.drop_sublist i vals).filterMap ownA)
  rw [e1, List.filterMap_cons] at nd
  simp only [ownA] at nd
  exact (List.nodup_cons.mp nd).1 (List.mem_filterMap.mpr ⟨_, hd, rfl⟩)
def mkL : List D := [.non, .tup [.int 1, .int 2], .tup [.int 1, .int 2, .int (-1)], .lst [.int 1, .int 2, .int 3]]
theorem mk_all : mkL.all (fun d => !isRec d && (tyL d && (pureD d && (okSh d && (match d with
  | .tup l => l.all (fun e => tyL e && pureD e) && (cmpL 63 l && decide (l.length < 1000))
  | _ => true))))) = true := by decide +kernel
theorem mk_of {d : D} (h : d ∈ mkL) : isRec d = false ∧ RecOk d ∧ ShS d := by
  have q := List.all_eq_true.mp mk_all d h
  obtain ⟨q1, q⟩ := He.ba q
  obtain ⟨q2, q⟩ := He.ba q
  obtain ⟨q3, q⟩ := He.ba q
  obtain ⟨q4, q5⟩ := He.ba q
  refine ⟨by simpa using q1, ⟨q2, q3, fun l e => ?_⟩, okSh_ok q4⟩
  subst e
  obtain ⟨z1, z⟩ := He.ba q5
  obtain ⟨z2, z3⟩ := He.ba z
  exact ⟨fun e he => He.ba (List.all_eq_true.mp z1 e he), z2, of_decide_eq_true z3⟩
theorem ok_law {P : Program} {w : World} {K : PySem.W.Frag} {mg : Str → Option Value} {base : Heap} {C f : Addr} {fd : FuncData} (T : Txt K mg) (F : FunD K "law" "law" (defArgs s_law) (defBody s_law) (defScope s_law) [] [] f fd) (h__law_generator : CallOk P w K mg base C 2 "_law_generator" 2 S__law_generator []) (h__law_task : CallOk P w K mg base C 6 "_law_task" 1 S__law_task []) (h__law_line : CallOk P w K mg base C 5 "_law_line" 1 S__law_line []) (h__law_bad : CallOk P w K mg base C 6 "_law_bad" 4 S__law_bad []) (h__law_list_right : CallG P w K mg base C 14 "_law_list_right" 2 S__law_list_right) (h__law_caught : CallOk P w K mg base C 13 "_law_caught" 4 S__law_caught []) (hur___repr__ : UOk P w K mg base C 3 "__repr__" 1 S_Line___repr__) (h_ex : ExAll K mg csL tsL) (h__law_bases_right : CallG P w K mg base C 14 "_law_bases_right" 4 S__law_bases_right) : FnG P w K mg base CX0 15 f fd ["_law_script"] (spD ⟨K, C⟩ 1 S_law) := by
  have nd := sc_law.nd
  refine fn_okG 13 1 F sc_law (fun cdv A outer s H E hr hgu =>
      (qss_cons (qs_set (i := 1) nd (qc h__law_generator hr (by decide) (qa_cons (qv 0) (qa_cons qi qa_nil))))
      (qss_cons (qs_asg (qc h__law_task hr (by decide) (qa_cons (qv 1) qa_nil)) (qg_tup (n := 3) (qgs_cons (qg_name (i := 2) nd) (qgs_cons (qg_name (i := 3) nd) (qgs_cons (qg_name (i := 4) nd) qgs_nil)))))
      (qss_cons (qs_set (i := 5) nd (qc h__law_line hr (by decide) (qa_cons (qv 2) qa_nil)))
      (qss_cons (qs_set (i := 6) nd (q_lst (qa_cons (q_tup (qa_cons (qv 5) (qa_cons (qv 3) (qa_cons (qv 4) qa_nil)))) (qa_cons (q_tup (qa_cons (qv 5) (qa_cons (qv 3) (qa_cons (qv 3) qa_nil)))) (qa_cons (q_tup (qa_cons (qv 5) (qa_cons (qv 3) (qa_cons (qv 4) qa_nil)))) qa_nil)))))
      (qss_cons (qs_for (qi_rng1 T.b_range (qa_cons qi qa_nil)) (qg_name (i := 7) nd)
        (qss_cons (qs_if (qt_cmp (c_ne hr) (q_lc (own := [("_law_value", 12)]) nd (qi_list (qc h__law_bad hr (by decide) (qa_cons (qv 2) (qa_cons (qv 3) (qa_cons (qv 4) (qa_cons (qv 6) qa_nil)))))) (blkOk_by (own := [("_law_value", 12)]) (N := N_law) (sc := defScope s_law) (by decide +kernel)) (fun _ _ _ _ _ => (qgw_name (i := 12) nd)) (fun _ _ _ _ _ => (qts_one (qt_not (qt_val (qcG h__law_list_right hr (by decide) hgu (qa_cons (qv 7) (qa_cons (qv 12) qa_nil))))))) (fun _ _ _ _ _ => (qv 12))) (q_lst qa_nil))
          (qss_one (qs_ret qb))
          qss_nil)
        (qss_one (qs_for (qi_list (q_lst (qa_cons (q_tup (qa_cons (qv 6) (qa_cons qi qa_nil))) (qa_cons (q_tup (qa_cons (q_rep (qv 6) qi) (qa_cons qi qa_nil))) qa_nil)))) (qg_tup (n := 2) (qgs_cons (qg_name (i := 8) nd) (qgs_cons (qg_name (i := 9) nd) qgs_nil)))
          (qss_one (qs_if (qt_notN (qc h__law_caught hr (by decide) (qa_cons (qv 7) (qa_cons (qv 8) (qa_cons (q_tup (qa_cons qi (qa_cons qi (qa_cons qi qa_nil)))) (qa_cons (qv 9) qa_nil))))))
            (qss_one (qs_ret qb))
            qss_nil))))))
      (qss_cons (qs_for (qi_list (q_lst (qa_cons qn (qa_cons (q_tup (qa_cons qi (qa_cons qi qa_nil))) (qa_cons (q_tup (qa_cons qi (qa_cons qi (qa_cons (q_neg qi) qa_nil)))) (qa_cons (q_lst (qa_cons qi (qa_cons qi (qa_cons qi qa_nil)))) qa_nil)))))) (qg_name (i := 10) nd)
        (qss_cons (qs_set (i := 11) nd (qc h__law_caught hr (by decide) (qa_cons qi (qa_cons (qv 6) (qa_cons (qv 10) (qa_cons qi qa_nil))))))
        (qss_one (qs_if (QW.qt (qw_or (qt_not (qt_val (q_isX (t := "InvalidRecipe") h_ex (by decide +kernel) (qv 11) rfl T.b_isinstance bb_isinstance))) (qw_or1 (qt_cmp (c_ne hr) (q_cb (b_reprX hur___repr__ hr (by decide) hgu) rfl T.b_repr bb_repr (qa_cons (q_fld (f := "value") h_ex (qv 11)) qa_nil)) (q_cb (b_reprX hur___repr__ hr (by decide) hgu) rfl T.b_repr bb_repr (qa_cons (qv 10) qa_nil))))))
          (qss_one (qs_ret qb))
          qss_nil))))
      (qss_one (qs_ret (qcG h__law_bases_right hr (by decide) hgu (qa_cons (qv 5) (qa_cons (qv 3) (qa_cons (qv 4) (qa_cons (qv 6) qa_nil)))))))))))))) ?_
  rintro ds M R - ⟨ns, rfl, hR⟩
  walk_at "w"
  refine ⟨ns, _, rfl, by omega, by omega, fun p m hp hm => ?_⟩
  walk_at "w"
  refine ⟨p, _, m, M, rfl, rfl, hm, by omega, fun x l h m1 pt lt bl hh hm1 => ?_⟩
  have e99 : (3 : Int) * 10 ^ 29 < 2 ^ 99 := by decide +kernel
  have sl : Sm 99 l := bl.sm.mono (by decide)
  have b1 := bl.1
  have sh : Sm 99 h := sm_of (by omega) (by omega)
  have nr := pt.nr
  have k1 : PcOk (x, l, h) := ⟨nr.dok (sl.mono (by decide)) (sh.mono (by decide)) (Int.le_of_lt lt), nr.p.mono (by decide)⟩
  have k2 : PcOk (x, l, l) := ⟨nr.dok (sl.mono (by decide)) (sl.mono (by decide)) (Int.le_refl l), nr.p.mono (by decide)⟩
  have k3 : PcOk (x, h, h) := ⟨nr.dok (sh.mono (by decide)) (sh.mono (by decide)) (Int.le_refl h), nr.p.mono (by decide)⟩
  have sp2 : Sm 330 (x.2.1 + 1 * x.2.2) := (Sm.add (a := 320) nr.p (by rw [Int.one_mul]; exact nr.o.mono (by decide))).mono (by decide)
  have k4 : PcOk ((x.1, x.2.1 + 1 * x.2.2, x.2.2), l, l) := ⟨⟨nr.o1, nr.t.mono (by decide), sp2.mono (by decide), nr.o.mono (by decide), sl.mono (by decide), sl.mono (by decide), Int.le_refl l⟩, sp2.mono (by decide)⟩
  have gd : GdPs [(x, l, h), (x, l, l), (x, l, h)] := ⟨fun q hq => by
    simp only [List.mem_cons, List.not_mem_nil, or_false] at hq
    rcases hq with rfl | rfl | rfl <;> assumption, by simp, by simp⟩
  walk_at "w"
  refine ⟨x, rfl, pt.o1, ?_⟩
  walk_at "w"
  refine vfor_rng1 5 (fun F z => by walk_at "w"; exact z) (by omega) (by omega) (fun i γ M' => Sub M M' ∧ ∃ x7 x8 x9 x10 x11 x12, γ = [some (D.scr ns), some (D.own p), some (trD x), some (D.int l), some (D.int h), some (trL x), some (D.lst [D.tup [trL x, D.int l, D.int h], D.tup [trL x, D.int l, D.int l], D.tup [trL x, D.int l, D.int h]]), x7, x8, x9, x10, x11, x12]) ⟨Sub.refl.more hp, _, _, _, _, _, _, rfl⟩ ?_ ?_
  · rintro i _ M' ⟨hsub, x7, x8, x9, x10, x11, x12, rfl⟩ hi
    rw [e_dName]
    walk_at "w"
    rw [vlc_eq]
    walk_at "w"
    refine ⟨x, l, h, rfl, pt, lt, sl, sh, fun vals N bd => ?_⟩
    refine vlc_listW vals (fun F z => z) (fun q hq => ⟨fun j acc M2 => acc = [] ∧ M2 q = none ∧ Sub M' M2 ∧ ∀ d ∈ vals.drop j, Itm M2 d, ⟨rfl, hq, bd.sub, fun d hd => bd.it d (by simpa using hd)⟩, fun j acc M2 w => ⟨w.2.1, by rw [w.1]; decide⟩, ?_, ?_⟩)
    · rintro j acc M2 d ⟨rfl, mq, sb, it⟩ hd
      obtain ⟨hj, hv⟩ := List.getElem?_eq_some_iff.mp hd
      have dm : vals.drop j = d :: vals.drop (j + 1) := by rw [List.drop_eq_getElem_cons hj, hv]
      have itd := it d (by rw [dm]; exact List.mem_cons_self)
      have dq : d ≠ .own q := by
        rintro rfl
        rcases itd with ⟨p', es, t, e, hp', _⟩ | ⟨ty, _⟩
        · cases e
          rw [mq] at hp'
          cases hp'
        · cases ty
      have itq := itd.more (m := .lst []) dq
      have it' : ∀ d ∈ vals.drop (j + 1), Itm M2 d := fun e he => it e (by rw [dm]; exact List.mem_cons_of_mem _ he)
      obtain ⟨t, sht⟩ := itq.sh
      walk_at "w"
      refine ⟨i, d, t, rfl, by omega, itq.bad, sht, fun p' es e hp' => ?_, fun no => ?_⟩
      · subst e
        have pq : p' ≠ q := fun z => dq (by rw [z])
        have mp : M' p' = none := bd.fr p' (List.mem_of_getElem? hd)
        refine ⟨fun z => (by cases z), fun _ => ⟨mset M2 p' (.lst (es ++ [.non])), mset_comm pq.symm, by rw [mset_ne pq.symm]; exact mq, fun a u ha => ?_, fun e he => (it' e he).more (own_drop bd.di hd e he)⟩⟩
        rw [mset_ne (fun z => by rw [z, mp] at ha; cases ha)]
        exact sb a u ha
      · refine ⟨fun z => (by cases z), fun _ => ⟨M2, rfl, mq, sb, it'⟩⟩
    rintro acc M2 ⟨rfl, mq, sb, _⟩
    walk_at "w"
    refine eqG_self (d := .lst []) rfl ?_
    refine ⟨fun z => (by cases z), fun _ => ?_⟩
    have sub2 : Sub M M2 := fun a u ha => sb a u (hsub a u ha)
    refine vfor_list [.tup [.lst ([(x, l, h), (x, l, l), (x, l, h)].map pcD), .int 2], .tup [.lst (([(x, l, h), (x, l, l), (x, l, h)] ++ [(x, l, h), (x, l, l), (x, l, h)] ++ [(x, l, h), (x, l, l), (x, l, h)] ++ [(x, l, h), (x, l, l), (x, l, h)]).map pcD), .int 36]] (fun F z => ?_) (fun _ γ M' => M' = M2 ∧ ∃ y8 y9, γ = [some (D.scr ns), some (D.own p), some (trD x), some (D.int l), some (D.int h), some (trL x), some (D.lst [D.tup [trL x, D.int l, D.int h], D.tup [trL x, D.int l, D.int l], D.tup [trL x, D.int l, D.int h]]), some (D.int ↑i), y8, y9, x10, x11, x12]) ⟨rfl, _, _, rfl⟩ ?_ ?_
    · walk_at "w"
      exact ⟨by decide, by decide, z⟩
    · rintro j e _ M1 ⟨hM, y8, y9, rfl⟩ he
      subst M1
      obtain ⟨P, b, rfl, G, b2, b36⟩ : ∃ P b, e = .tup [.lst (P.map pcD), .int b] ∧ GdPs P ∧ 2 ≤ b ∧ b ≤ 36 := by
        match j, he with
        | 0, he => exact ⟨_, 2, (Option.some.inj he).symm, gd, by decide, by decide⟩
        | 1, he =>
          refine ⟨_, 36, (Option.some.inj he).symm, ⟨fun q hq => ?_, by simp, by simp⟩, by decide, by decide⟩
          simp only [List.mem_append, or_assoc, or_self] at hq
          exact gd.ok q hq
        | j + 2, he => simp at he
      walk_at "w"
      refine ⟨i, _, _, _, rfl, by omega, .inr ⟨P, rfl, G, .inl ⟨⟨b, rfl, rfl, b2, b36⟩, ?_⟩⟩⟩
      walk_at "w"
      exact ⟨_, _, rfl⟩
    rintro _ M1 ⟨hM, y8, y9, rfl⟩
    subst M1
    exact ⟨sub2, _, _, _, _, _, _, rfl⟩
  · rintro _ M' ⟨hsub, x7, x8, x9, x10, x11, x12, rfl⟩
    walk_at "w"
    have inR : Str.ofString "InvalidRecipe" ∈ csL := by decide +kernel
    refine vfor_list mkL (fun F z => by walk_at "w"; exact z) (fun _ γ M1 => M1 = M' ∧ ∃ y10 y11, γ = [some (D.scr ns), some (D.own p), some (trD x), some (D.int l), some (D.int h), some (trL x), some (D.lst [D.tup [trL x, D.int l, D.int h], D.tup [trL x, D.int l, D.int l], D.tup [trL x, D.int l, D.int h]]), x7, x8, x9, y10, y11, x12]) ⟨rfl, _, _, rfl⟩ ?_ ?_
    · rintro j d _ M1 ⟨hM, y10, y11, rfl⟩ hd
      subst M1
      obtain ⟨nr', rc, q, sq, tq⟩ := mk_of (List.mem_of_getElem? hd)
      walk_at "w"
      refine ⟨4, _, d, .int 1, rfl, by decide, .inr ⟨[(x, l, h), (x, l, l), (x, l, h)], rfl, gd, .inr (.inr ⟨rfl, rc, nr', ?_⟩)⟩⟩
      refine ⟨inR, fun z => absurd z (by decide +kernel), fun _ => ⟨inR, nf_InvalidRecipe, fl_InvalidRecipe, .inl ⟨q, sq, .inl ⟨q, sq, ?_⟩⟩⟩⟩
      refine eqG_self (d := .str q.shown) tq ?_
      exact ⟨fun z => (by cases z), fun _ => ⟨rfl, _, _, rfl⟩⟩
    rintro _ M1 ⟨hM, y10, y11, rfl⟩
    subst M1
    walk_at "w"
    refine ⟨x, l, h, [(x, l, h), (x, l, l), (x, l, h)], rfl, gd, k1, k2, k3, k4, ?_⟩
    exact fin_to M hsub (fun _ h => h) (hR M)
theorem facts {P : Program} {w : World} {K : PySem.W.Frag} {h : Heap} {mg : Str → Option Value} {f : Addr} (X : K.In h) (G : h.Ns mainGlobals mg) (hfa : mg ("law" : Str) = some (.ref f)) (hfile : P.main.file = ("/claim/cut.py" : Str)) (htop : (P.main.scope.names.lookup ("super" : Str)).isSome = false) (cc : Says4 exL faL fnL "/claim/cut.py" esL K) :
    ∃ fd : FuncData, (∀ (s : Shared) (v : Value), BindsTo s fd ⟨[v], []⟩ [("_law_script", v)]) ∧ ∀ base : Heap, K.In base → base.Ns mainGlobals mg → FnG P w K mg base CX0 15 f fd ["_law_script"] (spD ⟨K, (He.ga K "Line")⟩ 1 S_law) := by
  obtain ⟨c, ce0⟩ := cc.1.both
  have ce := (He.ba ce0).1
  unfold exL at ce
  obtain ⟨ce0, ce⟩ := He.ba ce
  obtain ⟨ce1, ce⟩ := He.ba ce
  obtain ⟨ce2, ce⟩ := He.ba ce
  obtain ⟨ce3, ce⟩ := He.ba ce
  obtain ⟨ce4, ce⟩ := He.ba ce
  obtain ⟨ce5, ce⟩ := He.ba ce
  obtain ⟨ce6, ce⟩ := He.ba ce
  obtain ⟨ce7, ce⟩ := He.ba ce
  obtain ⟨ce8, ce⟩ := He.ba ce
  obtain ⟨ce9, ce⟩ := He.ba ce
  have T : Txt K mg := ⟨He.free_ok X G (c.fact 63 (f := .free "abs") rfl), He.free_ok X G (c.fact 64 (f := .free "bool") rfl), He.free_ok X G (c.fact 65 (f := .free "enumerate") rfl), He.free_ok X G (c.fact 66 (f := .free "int") rfl), He.free_ok X G (c.fact 67 (f := .free "isinstance") rfl), He.free_ok X G (c.fact 68 (f := .free "len") rfl), He.free_ok X G (c.fact 69 (f := .free "list") rfl), He.free_ok X G (c.fact 70 (f := .free "max") rfl), He.free_ok X G (c.fact 71 (f := .free "min") rfl), He.free_ok X G (c.fact 72 (f := .free "range") rfl), He.free_ok X G (c.fact 73 (f := .free "repr") rfl), He.free_ok X G (c.fact 74 (f := .free "super") rfl), He.free_ok X G (c.fact 75 (f := .free "tuple") rfl), He.glo_ok X G (c.fact 80 (f := .glo "FourTestsError") rfl)⟩
  obtain ⟨fd_is_whole, F_is_whole⟩ := c.def_ 0 rfl
  have G_is_whole := He.glo_ok X G (c.fact 0 (f := .glo "is_whole") rfl)
  obtain ⟨fd_is_piece, F_is_piece⟩ := c.def_ 1 rfl
  have G_is_piece := He.glo_ok X G (c.fact 1 (f := .glo "is_piece") rfl)
  obtain ⟨fd_check_pieces, F_check_pieces⟩ := c.def_ 2 rfl
  have G_check_pieces := He.glo_ok X G (c.fact 2 (f := .glo "check_pieces") rfl)
  obtain ⟨fd_check_line, F_check_line⟩ := c.def_ 3 rfl
  have G_check_line := He.glo_ok X G (c.fact 3 (f := .glo "check_line") rfl)
  obtain ⟨fd_check_range, F_check_range⟩ := c.def_ 4 rfl
  have G_check_range := He.glo_ok X G (c.fact 4 (f := .glo "check_range") rfl)
  obtain ⟨fd_common_divisor, F_common_divisor⟩ := c.def_ 5 rfl
  have G_common_divisor := He.glo_ok X G (c.fact 5 (f := .glo "common_divisor") rfl)
  obtain ⟨fd_fraction, F_fraction⟩ := c.def_ 6 rfl
  have G_fraction := He.glo_ok X G (c.fact 6 (f := .glo "fraction") rfl)
  obtain ⟨fd_check_whole, F_check_whole⟩ := c.def_ 7 rfl
  have G_check_whole := He.glo_ok X G (c.fact 7 (f := .glo "check_whole") rfl)
  obtain ⟨fd_Line_times, F_Line_times⟩ := c.def_ 8 rfl
  obtain ⟨fd_Line_plus, F_Line_plus⟩ := c.def_ 9 rfl
  obtain ⟨fd_Line_over, F_Line_over⟩ := c.def_ 10 rfl
  obtain ⟨fd_Line___call__, F_Line___call__⟩ := c.def_ 11 rfl
  obtain ⟨fd_lowered, F_lowered⟩ := c.def_ 12 rfl
  have G_lowered := He.glo_ok X G (c.fact 12 (f := .glo "lowered") rfl)
  obtain ⟨fd_raised, F_raised⟩ := c.def_ 13 rfl
  have G_raised := He.glo_ok X G (c.fact 13 (f := .glo "raised") rfl)
  obtain ⟨fd_greatest, F_greatest⟩ := c.def_ 14 rfl
  have G_greatest := He.glo_ok X G (c.fact 14 (f := .glo "greatest") rfl)
  obtain ⟨fd_place_of, F_place_of⟩ := c.def_ 15 rfl
  have G_place_of := He.glo_ok X G (c.fact 15 (f := .glo "place_of") rfl)
  obtain ⟨fd_low_slope, F_low_slope⟩ := c.def_ 16 rfl
  have G_low_slope := He.glo_ok X G (c.fact 16 (f := .glo "low_slope") rfl)
  obtain ⟨fd_check_parts, F_check_parts⟩ := c.def_ 17 rfl
  have G_check_parts := He.glo_ok X G (c.fact 17 (f := .glo "check_parts") rfl)
  obtain ⟨fd_Line___init__, F_Line___init__⟩ := c.def_ 18 rfl
  obtain ⟨fd_Line___neg__, F_Line___neg__⟩ := c.def_ 19 rfl
  obtain ⟨fd_slopes, F_slopes⟩ := c.def_ 20 rfl
  have G_slopes := He.glo_ok X G (c.fact 20 (f := .glo "slopes") rfl)
  obtain ⟨fd_less, F_less⟩ := c.def_ 21 rfl
  have G_less := He.glo_ok X G (c.fact 21 (f := .glo "less") rfl)
  obtain ⟨fd_unfolded, F_unfolded⟩ := c.def_ 22 rfl
  have G_unfolded := He.glo_ok X G (c.fact 22 (f := .glo "unfolded") rfl)
  obtain ⟨fd_simple_between, F_simple_between⟩ := c.def_ 23 rfl
  have G_simple_between := He.glo_ok X G (c.fact 23 (f := .glo "simple_between") rfl)
  obtain ⟨fd_highest, F_highest⟩ := c.def_ 24 rfl
  have G_highest := He.glo_ok X G (c.fact 24 (f := .glo "highest") rfl)
  obtain ⟨fd_simplest, F_simplest⟩ := c.def_ 25 rfl
  have G_simplest := He.glo_ok X G (c.fact 25 (f := .glo "simplest") rfl)
  obtain ⟨fd_leaning, F_leaning⟩ := c.def_ 26 rfl
  have G_leaning := He.glo_ok X G (c.fact 26 (f := .glo "leaning") rfl)
  obtain ⟨fd_corners, F_corners⟩ := c.def_ 27 rfl
  have G_corners := He.glo_ok X G (c.fact 27 (f := .glo "corners") rfl)
  obtain ⟨fd_bars_of, F_bars_of⟩ := c.def_ 28 rfl
  have G_bars_of := He.glo_ok X G (c.fact 28 (f := .glo "bars_of") rfl)
  obtain ⟨fd_pieces_slopes, F_pieces_slopes⟩ := c.def_ 29 rfl
  have G_pieces_slopes := He.glo_ok X G (c.fact 29 (f := .glo "pieces_slopes") rfl)
  obtain ⟨fd_no_line, F_no_line⟩ := c.def_ 30 rfl
  have G_no_line := He.glo_ok X G (c.fact 30 (f := .glo "no_line") rfl)
  obtain ⟨fd_is_bar, F_is_bar⟩ := c.def_ 31 rfl
  have G_is_bar := He.glo_ok X G (c.fact 31 (f := .glo "is_bar") rfl)
  obtain ⟨fd_meaning, F_meaning⟩ := c.def_ 32 rfl
  have G_meaning := He.glo_ok X G (c.fact 32 (f := .glo "meaning") rfl)
  obtain ⟨fd_check_no_line, F_check_no_line⟩ := c.def_ 33 rfl
  have G_check_no_line := He.glo_ok X G (c.fact 33 (f := .glo "check_no_line") rfl)
  obtain ⟨fd_check_base, F_check_base⟩ := c.def_ 34 rfl
  have G_check_base := He.glo_ok X G (c.fact 34 (f := .glo "check_base") rfl)
  obtain ⟨fd_inside, F_inside⟩ := c.def_ 35 rfl
  have G_inside := He.glo_ok X G (c.fact 35 (f := .glo "inside") rfl)
  obtain ⟨fd_power, F_power⟩ := c.def_ 36 rfl
  have G_power := He.glo_ok X G (c.fact 36 (f := .glo "power") rfl)
  obtain ⟨fd_pieces_recipe, F_pieces_recipe⟩ := c.def_ 37 rfl
  have G_pieces_recipe := He.glo_ok X G (c.fact 37 (f := .glo "pieces_recipe") rfl)
  obtain ⟨fd_is_recipe, F_is_recipe⟩ := c.def_ 38 rfl
  have G_is_recipe := He.glo_ok X G (c.fact 38 (f := .glo "is_recipe") rfl)
  obtain ⟨fd_check_recipe, F_check_recipe⟩ := c.def_ 39 rfl
  have G_check_recipe := He.glo_ok X G (c.fact 39 (f := .glo "check_recipe") rfl)
  obtain ⟨fd_recipe_line, F_recipe_line⟩ := c.def_ 40 rfl
  have G_recipe_line := He.glo_ok X G (c.fact 40 (f := .glo "recipe_line") rfl)
  obtain ⟨fd_check_two, F_check_two⟩ := c.def_ 41 rfl
  have G_check_two := He.glo_ok X G (c.fact 41 (f := .glo "check_two") rfl)
  obtain ⟨fd_follows, F_follows⟩ := c.def_ 42 rfl
  have G_follows := He.glo_ok X G (c.fact 42 (f := .glo "follows") rfl)
  obtain ⟨fd_agrees, F_agrees⟩ := c.def_ 43 rfl
  have G_agrees := He.glo_ok X G (c.fact 43 (f := .glo "agrees") rfl)
  obtain ⟨fd_first_apart, F_first_apart⟩ := c.def_ 44 rfl
  have G_first_apart := He.glo_ok X G (c.fact 44 (f := .glo "first_apart") rfl)
  obtain ⟨fd_pieces_fault, F_pieces_fault⟩ := c.def_ 45 rfl
  have G_pieces_fault := He.glo_ok X G (c.fact 45 (f := .glo "pieces_fault") rfl)
  obtain ⟨fd__law_caught, F__law_caught⟩ := c.def_ 46 rfl
  have G__law_caught := He.glo_ok X G (c.fact 46 (f := .glo "_law_caught") rfl)
  obtain ⟨fd_Line___repr__, F_Line___repr__⟩ := c.def_ 47 rfl
  obtain ⟨fd__law_list_right, F__law_list_right⟩ := c.def_ 48 rfl
  have G__law_list_right := He.glo_ok X G (c.fact 48 (f := .glo "_law_list_right") rfl)
  obtain ⟨fd__law_line, F__law_line⟩ := c.def_ 49 rfl
  have G__law_line := He.glo_ok X G (c.fact 49 (f := .glo "_law_line") rfl)
  obtain ⟨fd__law_bad, F__law_bad⟩ := c.def_ 50 rfl
  have G__law_bad := He.glo_ok X G (c.fact 50 (f := .glo "_law_bad") rfl)
  obtain ⟨fd__law_cell, F__law_cell⟩ := c.def_ 51 rfl
  have G__law_cell := He.glo_ok X G (c.fact 51 (f := .glo "_law_cell") rfl)
  obtain ⟨fd__law_generator, F__law_generator⟩ := c.def_ 52 rfl
  have G__law_generator := He.glo_ok X G (c.fact 52 (f := .glo "_law_generator") rfl)
  obtain ⟨fd__law_hash, F__law_hash⟩ := c.def_ 53 rfl
  have G__law_hash := He.glo_ok X G (c.fact 53 (f := .glo "_law_hash") rfl)
  obtain ⟨fd__law_random, F__law_random⟩ := c.def_ 54 rfl
  have G__law_random := He.glo_ok X G (c.fact 54 (f := .glo "_law_random") rfl)
  obtain ⟨fd__law_size, F__law_size⟩ := c.def_ 55 rfl
  have G__law_size := He.glo_ok X G (c.fact 55 (f := .glo "_law_size") rfl)
  obtain ⟨fd__law_signed, F__law_signed⟩ := c.def_ 56 rfl
  have G__law_signed := He.glo_ok X G (c.fact 56 (f := .glo "_law_signed") rfl)
  obtain ⟨fd__law_parts, F__law_parts⟩ := c.def_ 57 rfl
  have G__law_parts := He.glo_ok X G (c.fact 57 (f := .glo "_law_parts") rfl)
  obtain ⟨fd__law_ends, F__law_ends⟩ := c.def_ 58 rfl
  have G__law_ends := He.glo_ok X G (c.fact 58 (f := .glo "_law_ends") rfl)
  obtain ⟨fd__law_task, F__law_task⟩ := c.def_ 59 rfl
  have G__law_task := He.glo_ok X G (c.fact 59 (f := .glo "_law_task") rfl)
  obtain ⟨fd_Line___add__, F_Line___add__⟩ := c.def_ 60 rfl
  obtain ⟨fd__law_bases_right, F__law_bases_right⟩ := c.def_ 61 rfl
  have G__law_bases_right := He.glo_ok X G (c.fact 61 (f := .glo "_law_bases_right") rfl)
  obtain ⟨fd_law, F_law⟩ := c.def_ 62 rfl
  have G_law := He.glo_ok X G (c.fact 62 (f := .glo "law") rfl)
  have cl : Cls K (He.ga K "Line") ∧ NoAttr K (He.ga K "Line") "parts" := ⟨He.cls_ok (c.fact 76 (f := .cls "Line") rfl), He.noat_ok (c.fact 77 (f := .noat "Line" "parts") rfl)⟩
  have G_Line := He.glo_ok X G (c.fact 78 (f := .glo "Line") rfl)
  have h_isL : IsiF K mg (He.ga K "Line") := isiB_ok G_Line cl.1 ce0
  have hb_Add : BinF K (He.ga K "Line") .Add := binB_ok ce9
  have e := hfa.symm.trans G_law
  cases e
  have bl := FunD.bindsA (ps := ["_law_script"]) F_law fun _ _ _ _ _ _ us hl => match us, hl with | [_], _ => rfl
  refine ⟨fd_law, fun s v => bl s [v] rfl, fun base _ _ => ?_⟩
  have h_ex : ExAll K mg csL tsL := exAllB_ok (fun t ht => (List.mem_cons.mp ht).elim (fun e => by subst e; exact He.glo_ok X G (c.fact 84 (f := .glo "InvalidList") rfl)) (fun ht => (fun t ht => (List.mem_cons.mp ht).elim (fun e => by subst e; exact He.glo_ok X G (c.fact 85 (f := .glo "InvalidRecipe") rfl)) (fun ht => (fun t ht => (List.mem_cons.mp ht).elim (fun e => by subst e; exact He.glo_ok X G (c.fact 83 (f := .glo "InvalidNumber") rfl)) (fun ht => (fun t ht => (List.not_mem_nil ht).elim) t ht)) t ht)) t ht)) ce7
  have he_InvalidList : ExK P w K mg base 1 "InvalidList" := exk_of hfile htop T.b_super (He.glo_ok X G (c.fact 84 (f := .glo "InvalidList") rfl)) tx_InvalidList (cc.exc 0 (d := de_InvalidList) rfl).1 (cc.exc 0 (d := de_InvalidList) rfl).2
  have he_InvalidNumber : ExK P w K mg base 1 "InvalidNumber" := exk_of hfile htop T.b_super (He.glo_ok X G (c.fact 83 (f := .glo "InvalidNumber") rfl)) tx_InvalidNumber (cc.exc 1 (d := de_InvalidNumber) rfl).1 (cc.exc 1 (d := de_InvalidNumber) rfl).2
  have he_InvalidRecipe : ExK P w K mg base 1 "InvalidRecipe" := exk_of hfile htop T.b_super (He.glo_ok X G (c.fact 85 (f := .glo "InvalidRecipe") rfl)) tx_InvalidRecipe (cc.exc 2 (d := de_InvalidRecipe) rfl).1 (cc.exc 2 (d := de_InvalidRecipe) rfl).2
  have k_is_whole : FnOk P w K mg base CX0 1 _ fd_is_whole ["value"] (spD ⟨K, (He.ga K "Line")⟩ 1 S_is_whole) := ok_is_whole T F_is_whole h_isL
  have h_is_whole : CallOk P w K mg base (He.ga K "Line") 1 "is_whole" 1 S_is_whole [] := call_all G_is_whole F_is_whole k_is_whole (fun _ _ _ _ _ _ us hl => match us, hl with | [_], _ => rfl)
  have k_is_piece : FnOk P w K mg base CX0 2 _ fd_is_piece ["value"] (spD ⟨K, (He.ga K "Line")⟩ 1 S_is_piece) := ok_is_piece T F_is_piece h_isL h_is_whole
  have h_is_piece : CallOk P w K mg base (He.ga K "Line") 2 "is_piece" 1 S_is_piece [] := call_all G_is_piece F_is_piece k_is_piece (fun _ _ _ _ _ _ us hl => match us, hl with | [_], _ => rfl)
  have k_check_pieces : FnOk P w K mg base CX0 3 _ fd_check_pieces ["pieces"] (spD ⟨K, (He.ga K "Line")⟩ 1 S_check_pieces) := ok_check_pieces T F_check_pieces h_isL h_is_piece
  have h_check_pieces : CallOk P w K mg base (He.ga K "Line") 3 "check_pieces" 1 S_check_pieces [] := call_all G_check_pieces F_check_pieces k_check_pieces (fun _ _ _ _ _ _ us hl => match us, hl with | [_], _ => rfl)
  have k_check_line : FnOk P w K mg base CX0 1 _ fd_check_line ["value"] (spD ⟨K, (He.ga K "Line")⟩ 1 S_check_line) := ok_check_line T F_check_line h_isL
  have h_check_line : CallOk P w K mg base (He.ga K "Line") 1 "check_line" 1 S_check_line [] := call_all G_check_line F_check_line k_check_line (fun _ _ _ _ _ _ us hl => match us, hl with | [_], _ => rfl)
  have k_check_range : FnOk P w K mg base CX0 2 _ fd_check_range ["low", "high"] (spD ⟨K, (He.ga K "Line")⟩ 2 S_check_range) := ok_check_range T F_check_range h_is_whole
  have h_check_range : CallOk P w K mg base (He.ga K "Line") 2 "check_range" 2 S_check_range [] := call_all G_check_range F_check_range k_check_range (fun _ _ _ _ _ _ us hl => match us, hl with | [_, _], _ => rfl)
  have k_common_divisor : FnOk P w K mg base CX0 1 _ fd_common_divisor ["one", "other"] (spD ⟨K, (He.ga K "Line")⟩ 2 S_common_divisor) := ok_common_divisor T F_common_divisor 
  have h_common_divisor : CallOk P w K mg base (He.ga K "Line") 1 "common_divisor" 2 S_common_divisor [] := call_all G_common_divisor F_common_divisor k_common_divisor (fun _ _ _ _ _ _ us hl => match us, hl with | [_, _], _ => rfl)
  have k_fraction : FnOk P w K mg base CX0 2 _ fd_fraction ["top", "bottom"] (spD ⟨K, (He.ga K "Line")⟩ 2 S_fraction) := ok_fraction T F_fraction h_common_divisor
  have h_fraction : CallOk P w K mg base (He.ga K "Line") 2 "fraction" 2 S_fraction [] := call_all G_fraction F_fraction k_fraction (fun _ _ _ _ _ _ us hl => match us, hl with | [_, _], _ => rfl)
  have k_check_whole : FnOk P w K mg base CX0 2 _ fd_check_whole ["value", "least"] (spD ⟨K, (He.ga K "Line")⟩ 2 S_check_whole) := ok_check_whole T F_check_whole h_is_whole
  have h_check_whole_1 : CallOk P w K mg base (He.ga K "Line") 2 "check_whole" 2 S_check_whole [.non] := call_dfl _ 1 0 G_check_whole F_check_whole k_check_whole (by simp [He5.DefA.dvs]) rfl rfl (fun _ _ _ _ _ _ _ us its hl hi => match us, its, hl, hi with | [_], [_], _, _ => ⟨_, rfl, rfl⟩)
  have k_Line_times : FnOk P w K mg base CX0 1 _ fd_Line_times ["self"] (spD ⟨K, (He.ga K "Line")⟩ 1 S_Line_times) := ok_Line_times T F_Line_times cl
  have hp_times : POk P w K mg base (He.ga K "Line") 1 "times" S_Line_times := ⟨_, _, _, _, cl.1, propB_ok ce1, k_Line_times, F_Line_times.bindsN (fun _ _ _ _ _ _ us hl => match us, hl with | [_], _ => rfl)⟩
  have k_Line_plus : FnOk P w K mg base CX0 1 _ fd_Line_plus ["self"] (spD ⟨K, (He.ga K "Line")⟩ 1 S_Line_plus) := ok_Line_plus T F_Line_plus cl
  have hp_plus : POk P w K mg base (He.ga K "Line") 1 "plus" S_Line_plus := ⟨_, _, _, _, cl.1, propB_ok ce2, k_Line_plus, F_Line_plus.bindsN (fun _ _ _ _ _ _ us hl => match us, hl with | [_], _ => rfl)⟩
  have k_Line_over : FnOk P w K mg base CX0 1 _ fd_Line_over ["self"] (spD ⟨K, (He.ga K "Line")⟩ 1 S_Line_over) := ok_Line_over T F_Line_over cl
  have hp_over : POk P w K mg base (He.ga K "Line") 1 "over" S_Line_over := ⟨_, _, _, _, cl.1, propB_ok ce3, k_Line_over, F_Line_over.bindsN (fun _ _ _ _ _ _ us hl => match us, hl with | [_], _ => rfl)⟩
  have k_Line___call__ : FnOk P w K mg base CX0 3 _ fd_Line___call__ ["self", "n"] (spD ⟨K, (He.ga K "Line")⟩ 2 S_Line___call__) := ok_Line___call__ T F_Line___call__ h_check_whole_1 hp_times hp_plus hp_over
  have h_callO : COk P w K mg base (He.ga K "Line") 3 2 S_Line___call__ := ⟨_, _, _, callB_ok ce4, k_Line___call__, F_Line___call__.bindsN (fun _ _ _ _ _ _ us hl => match us, hl with | [_, _], _ => rfl)⟩
  have k_lowered : FnOk P w K mg base CX0 1 _ fd_lowered ["way"] (spD ⟨K, (He.ga K "Line")⟩ 1 S_lowered) := ok_lowered T F_lowered 
  have h_lowered : CallOk P w K mg base (He.ga K "Line") 1 "lowered" 1 S_lowered [] := call_all G_lowered F_lowered k_lowered (fun _ _ _ _ _ _ us hl => match us, hl with | [_], _ => rfl)
  have k_raised : FnOk P w K mg base CX0 1 _ fd_raised ["value", "place", "fixed", "last", "way"] (spD ⟨K, (He.ga K "Line")⟩ 5 S_raised) := ok_raised T F_raised 
  have h_raised : CallOk P w K mg base (He.ga K "Line") 1 "raised" 5 S_raised [] := call_all G_raised F_raised k_raised (fun _ _ _ _ _ _ us hl => match us, hl with | [_, _, _, _, _], _ => rfl)
  have k_greatest : FnOk P w K mg base CX0 2 _ fd_greatest ["times", "plus", "over", "last", "slope", "weight"] (spD ⟨K, (He.ga K "Line")⟩ 6 S_greatest) := ok_greatest T F_greatest h_lowered h_raised
  have h_greatest : CallOk P w K mg base (He.ga K "Line") 2 "greatest" 6 S_greatest [] := call_all G_greatest F_greatest k_greatest (fun _ _ _ _ _ _ us hl => match us, hl with | [_, _, _, _, _, _], _ => rfl)
  have k_place_of : FnOk P w K mg base CX0 3 _ fd_place_of ["line", "low", "high", "slope", "weight", "late"] (spD ⟨K, (He.ga K "Line")⟩ 6 S_place_of) := ok_place_of T F_place_of hp_times hp_plus h_greatest hp_over
  have h_place_of : CallOk P w K mg base (He.ga K "Line") 3 "place_of" 6 S_place_of [] := call_all G_place_of F_place_of k_place_of (fun _ _ _ _ _ _ us hl => match us, hl with | [_, _, _, _, _, _], _ => rfl)
  have k_low_slope : FnOk P w K mg base CX0 4 _ fd_low_slope ["line", "low", "high"] (spD ⟨K, (He.ga K "Line")⟩ 3 S_low_slope) := ok_low_slope T F_low_slope h_fraction h_callO h_place_of
  have h_low_slope : CallOk P w K mg base (He.ga K "Line") 4 "low_slope" 3 S_low_slope [] := call_all G_low_slope F_low_slope k_low_slope (fun _ _ _ _ _ _ us hl => match us, hl with | [_, _, _], _ => rfl)
  have k_check_parts : FnOk P w K mg base CX0 2 _ fd_check_parts ["times", "plus", "over"] (spD ⟨K, (He.ga K "Line")⟩ 3 S_check_parts) := ok_check_parts T F_check_parts h_is_whole
  have h_check_parts : CallOk P w K mg base (He.ga K "Line") 2 "check_parts" 3 S_check_parts [] := call_all G_check_parts F_check_parts k_check_parts (fun _ _ _ _ _ _ us hl => match us, hl with | [_, _, _], _ => rfl)
  have k_Line___init__ : FnOk P w K mg base CX0 3 _ fd_Line___init__ ["self", "times", "plus", "over"] (spLn (He.ga K "Line")) := ok_Line___init__ T F_Line___init__ h_check_parts cl
  have h_Line : LMk P w K mg base (He.ga K "Line") 3 := ⟨_, _, _, G_Line, He.mkr_ok (c.fact 79 (f := .mkr "Line") rfl), k_Line___init__, F_Line___init__.bindsN (fun _ _ _ _ _ _ us hl => match us, hl with | [_, _, _, _], _ => rfl)⟩
  have k_Line___neg__ : FnOk P w K mg base CX0 5 _ fd_Line___neg__ ["self"] (spD ⟨K, (He.ga K "Line")⟩ 1 S_Line___neg__) := ok_Line___neg__ T F_Line___neg__ h_Line hp_over hp_plus hp_times
  have hu___neg__ : UOk P w K mg base (He.ga K "Line") 5 "__neg__" 1 S_Line___neg__ := ⟨_, _, _, (opB_ok ce5).1, (opB_ok ce5).2, k_Line___neg__, F_Line___neg__.bindsN (fun _ _ _ _ _ _ us hl => match us, hl with | [_], _ => rfl)⟩
  have k_slopes : FnOk P w K mg base CX0 6 _ fd_slopes ["line", "low", "high"] (spD ⟨K, (He.ga K "Line")⟩ 3 S_slopes) := ok_slopes T F_slopes h_check_line h_check_range h_low_slope hu___neg__
  have h_slopes : CallOk P w K mg base (He.ga K "Line") 6 "slopes" 3 S_slopes [] := call_all G_slopes F_slopes k_slopes (fun _ _ _ _ _ _ us hl => match us, hl with | [_, _, _], _ => rfl)
  have k_less : FnOk P w K mg base CX0 1 _ fd_less ["one", "other"] (spD ⟨K, (He.ga K "Line")⟩ 2 S_less) := ok_less T F_less 
  have h_less : CallOk P w K mg base (He.ga K "Line") 1 "less" 2 S_less [] := call_all G_less F_less k_less (fun _ _ _ _ _ _ us hl => match us, hl with | [_, _], _ => rfl)
  have k_unfolded : FnOk P w K mg base CX0 1 _ fd_unfolded ["wholes", "found"] (spD ⟨K, (He.ga K "Line")⟩ 2 S_unfolded) := ok_unfolded T F_unfolded 
  have h_unfolded : CallOk P w K mg base (He.ga K "Line") 1 "unfolded" 2 S_unfolded [] := call_all G_unfolded F_unfolded k_unfolded (fun _ _ _ _ _ _ us hl => match us, hl with | [_, _], _ => rfl)
  have k_simple_between : FnOk P w K mg base CX0 2 _ fd_simple_between ["one", "other"] (spD ⟨K, (He.ga K "Line")⟩ 2 S_simple_between) := ok_simple_between T F_simple_between h_less h_unfolded
  have h_simple_between : CallOk P w K mg base (He.ga K "Line") 2 "simple_between" 2 S_simple_between [] := call_all G_simple_between F_simple_between k_simple_between (fun _ _ _ _ _ _ us hl => match us, hl with | [_, _], _ => rfl)
  have k_highest : FnOk P w K mg base CX0 3 _ fd_highest ["line", "low", "high", "slope", "weight"] (spD ⟨K, (He.ga K "Line")⟩ 5 S_highest) := ok_highest T F_highest h_greatest hp_over hp_times hp_plus
  have h_highest : CallOk P w K mg base (He.ga K "Line") 3 "highest" 5 S_highest [] := call_all G_highest F_highest k_highest (fun _ _ _ _ _ _ us hl => match us, hl with | [_, _, _, _, _], _ => rfl)
  have k_simplest : FnOk P w K mg base CX0 7 _ fd_simplest ["line", "low", "high"] (spD ⟨K, (He.ga K "Line")⟩ 3 S_simplest) := ok_simplest T F_simplest h_slopes h_simple_between h_Line h_highest
  have h_simplest : CallOk P w K mg base (He.ga K "Line") 7 "simplest" 3 S_simplest [] := call_all G_simplest F_simplest k_simplest (fun _ _ _ _ _ _ us hl => match us, hl with | [_, _, _], _ => rfl)
  have k_leaning : FnOk P w K mg base CX0 8 _ fd_leaning ["line", "low", "high"] (spD ⟨K, (He.ga K "Line")⟩ 3 S_leaning) := ok_leaning T F_leaning h_simplest h_place_of hp_over hp_times
  have h_leaning : CallOk P w K mg base (He.ga K "Line") 8 "leaning" 3 S_leaning [] := call_all G_leaning F_leaning k_leaning (fun _ _ _ _ _ _ us hl => match us, hl with | [_, _, _], _ => rfl)
  have k_corners : FnOk P w K mg base CX0 9 _ fd_corners ["pieces"] (spD ⟨K, (He.ga K "Line")⟩ 1 S_corners) := ok_corners T F_corners h_leaning h_callO
  have h_corners : CallOk P w K mg base (He.ga K "Line") 9 "corners" 1 S_corners [] := call_all G_corners F_corners k_corners (fun _ _ _ _ _ _ us hl => match us, hl with | [_], _ => rfl)
  have k_bars_of : FnOk P w K mg base CX0 10 _ fd_bars_of ["pieces"] (spD ⟨K, (He.ga K "Line")⟩ 1 S_bars_of) := ok_bars_of T F_bars_of h_corners h_fraction h_less
  have h_bars_of : CallOk P w K mg base (He.ga K "Line") 10 "bars_of" 1 S_bars_of [] := call_all G_bars_of F_bars_of k_bars_of (fun _ _ _ _ _ _ us hl => match us, hl with | [_], _ => rfl)
  have k_pieces_slopes : FnOk P w K mg base CX0 11 _ fd_pieces_slopes ["pieces"] (spD ⟨K, (He.ga K "Line")⟩ 1 S_pieces_slopes) := ok_pieces_slopes T F_pieces_slopes h_check_pieces h_bars_of h_less
  have h_pieces_slopes : CallOk P w K mg base (He.ga K "Line") 11 "pieces_slopes" 1 S_pieces_slopes [] := call_all G_pieces_slopes F_pieces_slopes k_pieces_slopes (fun _ _ _ _ _ _ us hl => match us, hl with | [_], _ => rfl)
  have kx_check_pieces : FnOk P w K mg base (CXp P w) 3 _ fd_check_pieces ["pieces"] (spU ⟨K, (He.ga K "Line")⟩ 1 S_check_pieces Sx_check_pieces) := fn_both k_check_pieces (okx_check_pieces T F_check_pieces h_isL he_InvalidList h_is_piece)
  have hx_check_pieces : CallX P w K mg base (He.ga K "Line") 3 "check_pieces" 1 S_check_pieces Sx_check_pieces [] := callx_all G_check_pieces F_check_pieces kx_check_pieces (fun _ _ _ _ _ _ us hl => match us, hl with | [_], _ => rfl)
  have kx_pieces_slopes : FnOk P w K mg base (CXp P w) 11 _ fd_pieces_slopes ["pieces"] (spU ⟨K, (He.ga K "Line")⟩ 1 S_pieces_slopes Sx_pieces_slopes) := fn_both k_pieces_slopes (okx_pieces_slopes T F_pieces_slopes hx_check_pieces)
  have hkx_pieces_slopes_0_pieces : KCallX P w K mg base (He.ga K "Line") 11 "pieces_slopes" 1 S_pieces_slopes Sx_pieces_slopes 0 ["pieces"] (pickL [0]) := callx_kw 0 ["pieces"] [0] G_pieces_slopes F_pieces_slopes kx_pieces_slopes (fun _ _ _ _ _ _ us ws hl hw => match us, ws, hl, hw with | [], [_], _, _ => rfl)
  have hx_pieces_slopes : CallX P w K mg base (He.ga K "Line") 11 "pieces_slopes" 1 S_pieces_slopes Sx_pieces_slopes [] := callx_all G_pieces_slopes F_pieces_slopes kx_pieces_slopes (fun _ _ _ _ _ _ us hl => match us, hl with | [_], _ => rfl)
  have k_no_line : FnOk P w K mg base CX0 12 _ fd_no_line ["pieces"] (spD ⟨K, (He.ga K "Line")⟩ 1 S_no_line) := ok_no_line T F_no_line h_pieces_slopes h_bars_of
  have kx_no_line : FnOk P w K mg base (CXp P w) 12 _ fd_no_line ["pieces"] (spU ⟨K, (He.ga K "Line")⟩ 1 S_no_line Sx_no_line) := fn_both k_no_line (okx_no_line T F_no_line hx_pieces_slopes)
  have hkx_no_line_0_pieces : KCallX P w K mg base (He.ga K "Line") 12 "no_line" 1 S_no_line Sx_no_line 0 ["pieces"] (pickL [0]) := callx_kw 0 ["pieces"] [0] G_no_line F_no_line kx_no_line (fun _ _ _ _ _ _ us ws hl hw => match us, ws, hl, hw with | [], [_], _, _ => rfl)
  have k_is_bar : FnOk P w K mg base CX0 2 _ fd_is_bar ["pieces", "value"] (spD ⟨K, (He.ga K "Line")⟩ 2 S_is_bar) := ok_is_bar T F_is_bar h_is_whole h_isL
  have h_is_bar : CallOk P w K mg base (He.ga K "Line") 2 "is_bar" 2 S_is_bar [] := call_all G_is_bar F_is_bar k_is_bar (fun _ _ _ _ _ _ us hl => match us, hl with | [_, _], _ => rfl)
  have k_meaning : FnOk P w K mg base CX0 4 _ fd_meaning ["pieces", "bar"] (spD ⟨K, (He.ga K "Line")⟩ 2 S_meaning) := ok_meaning T F_meaning h_callO
  have h_meaning : CallOk P w K mg base (He.ga K "Line") 4 "meaning" 2 S_meaning [] := call_all G_meaning F_meaning k_meaning (fun _ _ _ _ _ _ us hl => match us, hl with | [_, _], _ => rfl)
  have k_check_no_line : FnOk P w K mg base CX0 5 _ fd_check_no_line ["pieces", "claim"] (spD ⟨K, (He.ga K "Line")⟩ 2 S_check_no_line) := ok_check_no_line T F_check_no_line h_check_pieces h_is_bar h_isL h_meaning
  have kx_check_no_line : FnOk P w K mg base (CXp P w) 5 _ fd_check_no_line ["pieces", "claim"] (spU ⟨K, (He.ga K "Line")⟩ 2 S_check_no_line Sx_check_no_line) := fn_both k_check_no_line (okx_check_no_line T F_check_no_line hx_check_pieces)
  have hkx_check_no_line_0_pieces_claim : KCallX P w K mg base (He.ga K "Line") 5 "check_no_line" 2 S_check_no_line Sx_check_no_line 0 ["pieces", "claim"] (pickL [0, 1]) := callx_kw 0 ["pieces", "claim"] [0, 1] G_check_no_line F_check_no_line kx_check_no_line (fun _ _ _ _ _ _ us ws hl hw => match us, ws, hl, hw with | [], [_, _], _, _ => rfl)
  have k_check_base : FnOk P w K mg base CX0 2 _ fd_check_base ["base"] (spD ⟨K, (He.ga K "Line")⟩ 1 S_check_base) := ok_check_base T F_check_base h_is_whole
  have h_check_base : CallOk P w K mg base (He.ga K "Line") 2 "check_base" 1 S_check_base [] := call_all G_check_base F_check_base k_check_base (fun _ _ _ _ _ _ us hl => match us, hl with | [_], _ => rfl)
  have k_inside : FnOk P w K mg base CX0 1 _ fd_inside ["first", "second", "scale"] (spD ⟨K, (He.ga K "Line")⟩ 3 S_inside) := ok_inside T F_inside 
  have h_inside : CallOk P w K mg base (He.ga K "Line") 1 "inside" 3 S_inside [] := call_all G_inside F_inside k_inside (fun _ _ _ _ _ _ us hl => match us, hl with | [_, _, _], _ => rfl)
  have k_power : FnOk P w K mg base CX0 1 _ fd_power ["base", "exponent"] (spD ⟨K, (He.ga K "Line")⟩ 2 S_power) := ok_power T F_power 
  have h_power : CallOk P w K mg base (He.ga K "Line") 1 "power" 2 S_power [] := call_all G_power F_power k_power (fun _ _ _ _ _ _ us hl => match us, hl with | [_, _], _ => rfl)
  have k_pieces_recipe : FnOk P w K mg base CX0 12 _ fd_pieces_recipe ["pieces", "base"] (spD ⟨K, (He.ga K "Line")⟩ 2 S_pieces_recipe) := ok_pieces_recipe T F_pieces_recipe h_pieces_slopes h_check_base h_corners h_inside h_power
  have kx_check_base : FnOk P w K mg base (CXp P w) 3 _ fd_check_base ["base"] (spU ⟨K, (He.ga K "Line")⟩ 1 S_check_base Sx_check_base) := fn_both k_check_base (okx_check_base T F_check_base h_is_whole he_InvalidNumber)
  have hx_check_base : CallX P w K mg base (He.ga K "Line") 3 "check_base" 1 S_check_base Sx_check_base [] := callx_all G_check_base F_check_base kx_check_base (fun _ _ _ _ _ _ us hl => match us, hl with | [_], _ => rfl)
  have kx_pieces_recipe : FnOk P w K mg base (CXp P w) 12 _ fd_pieces_recipe ["pieces", "base"] (spU ⟨K, (He.ga K "Line")⟩ 2 S_pieces_recipe Sx_pieces_recipe) := fn_both k_pieces_recipe (okx_pieces_recipe T F_pieces_recipe hx_pieces_slopes hx_check_base)
  have hkx_pieces_recipe_0_pieces_base : KCallX P w K mg base (He.ga K "Line") 12 "pieces_recipe" 2 S_pieces_recipe Sx_pieces_recipe 0 ["pieces", "base"] (pickL [0, 1]) := callx_kw 0 ["pieces", "base"] [0, 1] G_pieces_recipe F_pieces_recipe kx_pieces_recipe (fun _ _ _ _ _ _ us ws hl hw => match us, ws, hl, hw with | [], [_, _], _, _ => rfl)
  have k_is_recipe : FnOk P w K mg base CX0 2 _ fd_is_recipe ["value"] (spD ⟨K, (He.ga K "Line")⟩ 1 S_is_recipe) := ok_is_recipe T F_is_recipe h_isL h_is_whole
  have h_is_recipe : CallOk P w K mg base (He.ga K "Line") 2 "is_recipe" 1 S_is_recipe [] := call_all G_is_recipe F_is_recipe k_is_recipe (fun _ _ _ _ _ _ us hl => match us, hl with | [_], _ => rfl)
  have k_check_recipe : FnOk P w K mg base CX0 3 _ fd_check_recipe ["value"] (spD ⟨K, (He.ga K "Line")⟩ 1 S_check_recipe) := ok_check_recipe T F_check_recipe h_is_recipe
  have h_check_recipe : CallOk P w K mg base (He.ga K "Line") 3 "check_recipe" 1 S_check_recipe [] := call_all G_check_recipe F_check_recipe k_check_recipe (fun _ _ _ _ _ _ us hl => match us, hl with | [_], _ => rfl)
  have k_recipe_line : FnOk P w K mg base CX0 5 _ fd_recipe_line ["recipe", "base"] (spD ⟨K, (He.ga K "Line")⟩ 2 S_recipe_line) := ok_recipe_line T F_recipe_line h_check_recipe h_check_base h_Line h_power
  have hk_recipe_line_1_base : KCallOk P w K mg base (He.ga K "Line") 5 "recipe_line" 2 S_recipe_line 1 ["base"] (pickL [0, 1]) := call_kw 1 ["base"] [0, 1] G_recipe_line F_recipe_line k_recipe_line (fun _ _ _ _ _ _ us ws hl hw => match us, ws, hl, hw with | [_], [_], _, _ => rfl)
  have k_check_two : FnOk P w K mg base CX0 3 _ fd_check_two ["one", "other", "low", "high"] (spD ⟨K, (He.ga K "Line")⟩ 4 S_check_two) := ok_check_two T F_check_two h_check_line h_check_range
  have h_check_two : CallOk P w K mg base (He.ga K "Line") 3 "check_two" 4 S_check_two [] := call_all G_check_two F_check_two k_check_two (fun _ _ _ _ _ _ us hl => match us, hl with | [_, _, _, _], _ => rfl)
  have k_follows : FnOk P w K mg base CX0 4 _ fd_follows ["line", "low", "high", "times", "plus", "over"] (spD ⟨K, (He.ga K "Line")⟩ 6 S_follows) := ok_follows T F_follows h_highest
  have h_follows : CallOk P w K mg base (He.ga K "Line") 4 "follows" 6 S_follows [] := call_all G_follows F_follows k_follows (fun _ _ _ _ _ _ us hl => match us, hl with | [_, _, _, _, _, _], _ => rfl)
  have k_agrees : FnOk P w K mg base CX0 5 _ fd_agrees ["one", "other", "low", "high"] (spD ⟨K, (He.ga K "Line")⟩ 4 S_agrees) := ok_agrees T F_agrees h_check_two h_follows hp_over hp_plus hp_times
  have h_agrees : CallOk P w K mg base (He.ga K "Line") 5 "agrees" 4 S_agrees [] := call_all G_agrees F_agrees k_agrees (fun _ _ _ _ _ _ us hl => match us, hl with | [_, _, _, _], _ => rfl)
  have k_first_apart : FnOk P w K mg base CX0 6 _ fd_first_apart ["one", "other", "low", "high"] (spD ⟨K, (He.ga K "Line")⟩ 4 S_first_apart) := ok_first_apart T F_first_apart h_agrees h_callO
  have h_first_apart : CallOk P w K mg base (He.ga K "Line") 6 "first_apart" 4 S_first_apart [] := call_all G_first_apart F_first_apart k_first_apart (fun _ _ _ _ _ _ us hl => match us, hl with | [_, _, _, _], _ => rfl)
  have k_pieces_fault : FnOk P w K mg base CX0 7 _ fd_pieces_fault ["pieces", "recipe", "base"] (spD ⟨K, (He.ga K "Line")⟩ 3 S_pieces_fault) := ok_pieces_fault T F_pieces_fault h_check_pieces h_check_recipe hk_recipe_line_1_base h_first_apart h_callO
  have kx_check_recipe : FnOk P w K mg base (CXp P w) 3 _ fd_check_recipe ["value"] (spU ⟨K, (He.ga K "Line")⟩ 1 S_check_recipe Sx_check_recipe) := fn_both k_check_recipe (okx_check_recipe T F_check_recipe h_is_recipe he_InvalidRecipe)
  have hx_check_recipe : CallX P w K mg base (He.ga K "Line") 3 "check_recipe" 1 S_check_recipe Sx_check_recipe [] := callx_all G_check_recipe F_check_recipe kx_check_recipe (fun _ _ _ _ _ _ us hl => match us, hl with | [_], _ => rfl)
  have kx_recipe_line : FnOk P w K mg base (CXp P w) 5 _ fd_recipe_line ["recipe", "base"] (spU ⟨K, (He.ga K "Line")⟩ 2 S_recipe_line Sx_recipe_line) := fn_both k_recipe_line (okx_recipe_line T F_recipe_line hx_check_recipe hx_check_base)
  have hkx_recipe_line_1_base : KCallX P w K mg base (He.ga K "Line") 5 "recipe_line" 2 S_recipe_line Sx_recipe_line 1 ["base"] (pickL [0, 1]) := callx_kw 1 ["base"] [0, 1] G_recipe_line F_recipe_line kx_recipe_line (fun _ _ _ _ _ _ us ws hl hw => match us, ws, hl, hw with | [_], [_], _, _ => rfl)
  have kx_pieces_fault : FnOk P w K mg base (CXp P w) 7 _ fd_pieces_fault ["pieces", "recipe", "base"] (spU ⟨K, (He.ga K "Line")⟩ 3 S_pieces_fault Sx_pieces_fault) := fn_both k_pieces_fault (okx_pieces_fault T F_pieces_fault hx_check_pieces hx_check_recipe hkx_recipe_line_1_base)
  have hkx_pieces_fault_0_pieces_recipe_base : KCallX P w K mg base (He.ga K "Line") 7 "pieces_fault" 3 S_pieces_fault Sx_pieces_fault 0 ["pieces", "recipe", "base"] (pickL [0, 1, 2]) := callx_kw 0 ["pieces", "recipe", "base"] [0, 1, 2] G_pieces_fault F_pieces_fault kx_pieces_fault (fun _ _ _ _ _ _ us ws hl hw => match us, ws, hl, hw with | [], [_, _, _], _, _ => rfl)
  have k__law_caught : FnOk P w K mg base CX0 13 _ fd__law_caught ["_law_way", "_law_given", "_law_made", "_law_root"] (spD ⟨K, (He.ga K "Line")⟩ 4 S__law_caught) := ok__law_caught T F__law_caught hkx_pieces_slopes_0_pieces hkx_no_line_0_pieces hkx_check_no_line_0_pieces_claim hkx_pieces_recipe_0_pieces_base hkx_pieces_fault_0_pieces_recipe_base
  have h__law_caught : CallOk P w K mg base (He.ga K "Line") 13 "_law_caught" 4 S__law_caught [] := call_all G__law_caught F__law_caught k__law_caught (fun _ _ _ _ _ _ us hl => match us, hl with | [_, _, _, _], _ => rfl)
  have k_Line___repr__ : FnOk P w K mg base CX0 3 _ fd_Line___repr__ ["self"] (spD ⟨K, (He.ga K "Line")⟩ 1 S_Line___repr__) := ok_Line___repr__ T F_Line___repr__ hp_over hp_plus hp_times
  have hur___repr__ : UOk P w K mg base (He.ga K "Line") 3 "__repr__" 1 S_Line___repr__ := ⟨_, _, _, (opB_ok ce6).1, (opB_ok ce6).2, k_Line___repr__, F_Line___repr__.bindsN (fun _ _ _ _ _ _ us hl => match us, hl with | [_], _ => rfl)⟩
  have k__law_list_right : FnG P w K mg base CX0 14 _ fd__law_list_right ["_law_way", "_law_value"] (spD ⟨K, (He.ga K "Line")⟩ 2 S__law_list_right) := ok__law_list_right T F__law_list_right hur___repr__ h__law_caught h_ex h_isL
  have h__law_list_right : CallG P w K mg base (He.ga K "Line") 14 "_law_list_right" 2 S__law_list_right := callG_all G__law_list_right F__law_list_right k__law_list_right (fun _ _ _ _ _ _ us hl => match us, hl with | [_, _], _ => rfl)
  have k__law_line : FnOk P w K mg base CX0 5 _ fd__law_line ["_law_parts_here"] (spD ⟨K, (He.ga K "Line")⟩ 1 S__law_line) := ok__law_line T F__law_line h_Line
  have h__law_line : CallOk P w K mg base (He.ga K "Line") 5 "_law_line" 1 S__law_line [] := call_all G__law_line F__law_line k__law_line (fun _ _ _ _ _ _ us hl => match us, hl with | [_], _ => rfl)
  have k__law_bad : FnOk P w K mg base CX0 6 _ fd__law_bad ["_law_parts_here", "_law_low", "_law_high", "_law_good"] (spD ⟨K, (He.ga K "Line")⟩ 4 S__law_bad) := ok__law_bad T F__law_bad h__law_line
  have h__law_bad : CallOk P w K mg base (He.ga K "Line") 6 "_law_bad" 4 S__law_bad [] := call_all G__law_bad F__law_bad k__law_bad (fun _ _ _ _ _ _ us hl => match us, hl with | [_, _, _, _], _ => rfl)
  have k__law_cell : FnOk P w K mg base CX0 1 _ fd__law_cell ["_law_script", "_law_index"] (spD ⟨K, (He.ga K "Line")⟩ 2 S__law_cell) := ok__law_cell T F__law_cell 
  have h__law_cell : CallOk P w K mg base (He.ga K "Line") 1 "_law_cell" 2 S__law_cell [] := call_all G__law_cell F__law_cell k__law_cell (fun _ _ _ _ _ _ us hl => match us, hl with | [_, _], _ => rfl)
  have k__law_generator : FnOk P w K mg base CX0 2 _ fd__law_generator ["_law_script", "_law_index"] (spD ⟨K, (He.ga K "Line")⟩ 2 S__law_generator) := ok__law_generator T F__law_generator h__law_cell
  have h__law_generator : CallOk P w K mg base (He.ga K "Line") 2 "_law_generator" 2 S__law_generator [] := call_all G__law_generator F__law_generator k__law_generator (fun _ _ _ _ _ _ us hl => match us, hl with | [_, _], _ => rfl)
  have k__law_hash : FnOk P w K mg base CX0 1 _ fd__law_hash ["_law_seed", "_law_index"] (spD ⟨K, (He.ga K "Line")⟩ 2 S__law_hash) := ok__law_hash T F__law_hash 
  have h__law_hash : CallOk P w K mg base (He.ga K "Line") 1 "_law_hash" 2 S__law_hash [] := call_all G__law_hash F__law_hash k__law_hash (fun _ _ _ _ _ _ us hl => match us, hl with | [_, _], _ => rfl)
  have k__law_random : FnOk P w K mg base CX0 2 _ fd__law_random ["_law_generator_here", "_law_bound"] (spD ⟨K, (He.ga K "Line")⟩ 2 S__law_random) := ok__law_random T F__law_random h__law_hash
  have h__law_random : CallOk P w K mg base (He.ga K "Line") 2 "_law_random" 2 S__law_random [] := call_all G__law_random F__law_random k__law_random (fun _ _ _ _ _ _ us hl => match us, hl with | [_, _], _ => rfl)
  have k__law_size : FnOk P w K mg base CX0 3 _ fd__law_size ["_law_generator_here"] (spD ⟨K, (He.ga K "Line")⟩ 1 S__law_size) := ok__law_size T F__law_size h__law_random
  have h__law_size : CallOk P w K mg base (He.ga K "Line") 3 "_law_size" 1 S__law_size [] := call_all G__law_size F__law_size k__law_size (fun _ _ _ _ _ _ us hl => match us, hl with | [_], _ => rfl)
  have k__law_signed : FnOk P w K mg base CX0 4 _ fd__law_signed ["_law_generator_here"] (spD ⟨K, (He.ga K "Line")⟩ 1 S__law_signed) := ok__law_signed T F__law_signed h__law_size h__law_random
  have h__law_signed : CallOk P w K mg base (He.ga K "Line") 4 "_law_signed" 1 S__law_signed [] := call_all G__law_signed F__law_signed k__law_signed (fun _ _ _ _ _ _ us hl => match us, hl with | [_], _ => rfl)
  have k__law_parts : FnOk P w K mg base CX0 5 _ fd__law_parts ["_law_generator_here"] (spD ⟨K, (He.ga K "Line")⟩ 1 S__law_parts) := ok__law_parts T F__law_parts h__law_random h__law_size h__law_signed
  have h__law_parts : CallOk P w K mg base (He.ga K "Line") 5 "_law_parts" 1 S__law_parts [] := call_all G__law_parts F__law_parts k__law_parts (fun _ _ _ _ _ _ us hl => match us, hl with | [_], _ => rfl)
  have k__law_ends : FnOk P w K mg base CX0 5 _ fd__law_ends ["_law_generator_here", "_law_over"] (spD ⟨K, (He.ga K "Line")⟩ 2 S__law_ends) := ok__law_ends T F__law_ends h__law_signed h__law_random h__law_size
  have h__law_ends : CallOk P w K mg base (He.ga K "Line") 5 "_law_ends" 2 S__law_ends [] := call_all G__law_ends F__law_ends k__law_ends (fun _ _ _ _ _ _ us hl => match us, hl with | [_, _], _ => rfl)
  have k__law_task : FnOk P w K mg base CX0 6 _ fd__law_task ["_law_generator_here"] (spD ⟨K, (He.ga K "Line")⟩ 1 S__law_task) := ok__law_task T F__law_task h__law_parts h__law_ends
  have h__law_task : CallOk P w K mg base (He.ga K "Line") 6 "_law_task" 1 S__law_task [] := call_all G__law_task F__law_task k__law_task (fun _ _ _ _ _ _ us hl => match us, hl with | [_], _ => rfl)
  have k_Line___add__ : FnOk P w K mg base CX0 5 _ fd_Line___add__ ["self", "other"] (spD ⟨K, (He.ga K "Line")⟩ 2 S_Line___add__) := ok_Line___add__ T F_Line___add__ h_is_whole h_Line hp_over hp_plus hp_times
  have hu___add__ : UOk P w K mg base (He.ga K "Line") 5 "__add__" 2 S_Line___add__ := ⟨_, _, _, (opB_ok ce8).1, (opB_ok ce8).2, k_Line___add__, F_Line___add__.bindsN (fun _ _ _ _ _ _ us hl => match us, hl with | [_, _], _ => rfl)⟩
  have k__law_bases_right : FnG P w K mg base CX0 14 _ fd__law_bases_right ["_law_line_here", "_law_low", "_law_high", "_law_good"] (spD ⟨K, (He.ga K "Line")⟩ 4 S__law_bases_right) := ok__law_bases_right T F__law_bases_right hu___add__ hb_Add h__law_caught hur___repr__ h_ex
  have h__law_bases_right : CallG P w K mg base (He.ga K "Line") 14 "_law_bases_right" 4 S__law_bases_right := callG_all G__law_bases_right F__law_bases_right k__law_bases_right (fun _ _ _ _ _ _ us hl => match us, hl with | [_, _, _, _], _ => rfl)
  have k_law : FnG P w K mg base CX0 15 _ fd_law ["_law_script"] (spD ⟨K, (He.ga K "Line")⟩ 1 S_law) := ok_law T F_law h__law_generator h__law_task h__law_line h__law_bad h__law_list_right h__law_caught hur___repr__ h_ex h__law_bases_right
  exact k_law
end K33
open PySem PySem.W PySem.Calls PyProof.Rows
set_option maxRecDepth 100000 in
set_option maxHeartbeats 0 in
theorem PySem.Challenge.cw_fourtests_k33_pieces_refused_holds : PySem.Challenge.rw_fourtests_k33_pieces_refused.Holds := by
  w_on; o_law
  refine HandSHeadRun.head_any (r := OpenLaw.row PySem.Challenge.rw_fourtests_k33_pieces_refused) (q := view (OpenLaw.row PySem.Challenge.rw_fourtests_k33_pieces_refused).prog [69]) (H := K33.hk) (ob := K33.ob) (M := 20000) (loose := K33.names) (d := HandSHeadRun.topDef (OpenLaw.row PySem.Challenge.rw_fourtests_k33_pieces_refused).prog 69) (kwd := []) K33.ob_eq
    (by kernel_rfl) (fun s => by kernel_rfl) K33.run (by kernel_rfl) (by kernel_rfl) (by kernel_rfl) (by rfl) (by first | assumption | decide +kernel) (by decide +kernel) ⟨rfl, rfl, rfl, rfl, rfl, by decide +kernel⟩ ?hw ?hc
  case hw => w_witness2
  case hc =>
    refine L2.walk_ofG (l := PySem.Challenge.rw_fourtests_k33_pieces_refused) (n := 63) (k := 15) (x := "_law_script") rfl (by decide) (by kernel_rfl) ⟨rfl, by decide, by decide⟩ ?F
    intro w mg fa h Y G hmg0
    obtain ⟨K, KX, c⟩ := Y
    have hmg : mg ("law" : PySem.Str) = some (.ref fa) := by
      have e : (HandSHeadRun.topDef (OpenLaw.row PySem.Challenge.rw_fourtests_k33_pieces_refused).prog 69).name = ("law" : PySem.Str) := by kernel_rfl
      rw [← e]
      exact hmg0
    obtain ⟨fd, hb, hF⟩ := K33.facts (P := (PySem.Challenge.rw_fourtests_k33_pieces_refused).prog) (w := w) KX G hmg (by rfl) (by first | rfl | decide +kernel | kernel_rfl) c
    exact ⟨K, fd, Dl.spD ⟨K, (He.ga K "Line")⟩ 1 K33.S_law, KX, hb, fun H a ns hl ho hS => Dl.law_start K33.law_true H a ns hl ho hS, hF⟩

