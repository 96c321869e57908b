import PyProof.Rows.All
import Wide.All
import OpenK.AllK
import Wide.FinOn
import KE.KStateDown
import HandS.ForMost
import HandS.ForExc
import HandS.Wide
import HandS.WideBits
import HandS.Defaults
import HandS.IsInst
import HandS.Conv
import HandS.Head0
import HandS.Head1
import HandS.Head2
import HandS.HeadEnd
import HandS.HeadHook1
import HandS.HeadHook2
import HandS.HeadNt
import HandS.Style
import HandS.Iter
import HandS.Deep
import HandS.Property
import HandS.Star
import HandS.ClsMeth
import HandS.More
import HandS.OwnEq
import HandS.NoneIn
import HandS.SetFor
import HandS.Strs
import KE.KOpsOwn
import HandS.Exc
import HandS.ExcInit
import HandS.ExcIs
import HandS.ExcField
import HandS.RaiseMore
import KE.KExcSuper
import PyProof.ReprRoads
import HandS.Flow
import HandS.MakeKwOnly
import HandS.TupAny
import HandS.TupMul
import HandS.FStr
import HandS.Text
import HandS.DictComp
import HandS.ExcValue
import PySem.Challenge.RW_fourtests_k96_whole_full_libraries
set_option Elab.async false
set_option linter.all false
set_option maxRecDepth 100000
set_option maxHeartbeats 4000000
namespace Dl
open PySem L2
inductive D where
  | non | bl (b : Bool) | int (i : Int) | str (x : Str)
  | tup (xs : List D) | lst (xs : List D)
  | scr (ns : List Int)
  | ln (t p o : Int)
  | own (a : Addr)
  | exn (c : Str) (f : D)
  | exn0 (c : Str)
  | dct (ks : List Key) (ds : List D)
  | cls
inductive MO where
  | lst (xs : List D)
  | obj (c : Str) (ds : List D)
  | dct (ks : List Key) (ds : List D)
  | lck (o : Obj) (vs : List V) (ks : List Key) (ds : List D)
  | lso (ds : List D)
abbrev Mem := Addr → Option MO
def mset (M : Mem) (a : Addr) (m : MO) : Mem := fun b => if b = a then some m else M b
theorem mset_same {M : Mem} {a : Addr} {m : MO} : mset M a m a = some m := by unfold mset; rw [if_pos rfl]
theorem mset_ne {M : Mem} {a b : Addr} {m : MO} (h : b ≠ a) : mset M a m b = M b := by unfold mset; rw [if_neg h]
theorem mset_set {M : Mem} {a : Addr} {m n : MO} : mset (mset M a m) a n = mset M a n := by funext b; unfold mset; split <;> rfl
theorem mset_comm {M : Mem} {a b : Addr} {m n : MO} (h : a ≠ b) : mset (mset M a m) b n = mset (mset M b n) a m := by
  funext c; unfold mset
  by_cases h1 : c = b
  · subst h1; rw [if_pos rfl, if_neg (Ne.symm h), if_pos rfl]
  · rw [if_neg h1]; by_cases h2 : c = a
    · rw [if_pos h2, if_pos h2]
    · rw [if_neg h2, if_neg h2, if_neg h1]
structure Gx where
  K : PySem.W.Frag
  C : Addr
def KL (K : PySem.W.Frag) (a : Addr) (xs : List V) : Prop :=
  ∃ (o : Obj) (its : Array Value) (n : Nat), K.lookup a = some o ∧ o.cls = .type "list" ∧ o.dict = none ∧ o.data = .seq its n ∧ its.size ≤ sizeLine ∧ Vals xs its.toList
def fLine (q : Addr) : List (Str × V) := [("parts", .ref q)]
def exH (C : Addr) (d : Option Addr) (a : Addr) : HO := .ext fun h => ∃ (oe : Obj) (vs : Array Value), h.get? a = some oe ∧ Zc (.ref C) d oe ∧ oe.data = .fields vs
def fldN (c : Str) : Str := if c = "UnknownName" ∨ c = "TakenName" ∨ c = "InvalidName" then "name" else if c = "TooNarrow" then "bits" else if c = "InvalidCode" ∨ c = "Overflow" then "row" else "value"
mutual
def Is (G : Gx) (M : Mem) (H : Hp) : D → V → Prop
  | .non, v => v = .non
  | .bl b, v => v = .bl b
  | .int i, v => v = .int i
  | .str x, v => v = .str x
  | .tup ds, v => ∃ a xs, v = .ref a ∧ M a = none ∧ H a = some (.tup xs) ∧ IsL G M H ds xs
  | .lst ds, v => ∃ a xs, v = .ref a ∧ M a = none ∧ H a = some (.lst xs) ∧ IsL G M H ds xs
  | .scr ns, v => ∃ a, v = .ref a ∧ ((M a = none ∧ ∃ o, H a = some (.frz o (.lst (ns.map V.int)))) ∨ KL G.K a (ns.map V.int))
  | .ln t p o, v => ∃ a dx q, v = .ref a ∧ M a = none ∧ H a = some (.ins G.C dx (fLine q)) ∧ M q = none ∧ H q = some (.tup [.int t, .int p, .int o])
  | .own a, v => v = .ref a ∧ (M a).isSome = true
  | .exn c f, v => ∃ a dd u, v = .ref a ∧ M a = none ∧ H a = some (exH (He.ga G.K c) (some dd) a) ∧ M dd = none ∧ H dd = some (.xd [(fldN c, u)]) ∧ Is G M H f u
  | .exn0 c, v => ∃ a, v = .ref a ∧ M a = none ∧ H a = some (exH (He.ga G.K c) none a)
  | .dct ks ds, v => ∃ a xs, v = .ref a ∧ M a = none ∧ H a = some (.dK (ks.zip xs)) ∧ ks.length = ds.length ∧ IsL G M H ds xs
  | .cls, v => v = .ref G.C
def IsL (G : Gx) (M : Mem) (H : Hp) : List D → List V → Prop
  | [], [] => True
  | d :: ds, x :: xs => Is G M H d x ∧ IsL G M H ds xs
  | _, _ => False
end
mutual
def pureD : D → Bool
  | .tup ds => pureL ds
  | .lst ds => pureL ds
  | .own _ => false
  | .exn _ f => pureD f
  | .dct _ ds => pureL ds
  | _ => true
def pureL : List D → Bool
  | [] => true
  | d :: ds => pureD d && pureL ds
end
def FIs (G : Gx) (M : Mem) (H : Hp) : D → V → Prop
  | .own b, v => v = .ref b
  | d, v => pureD d = true ∧ Is G M H d v
def FIsL (G : Gx) (M : Mem) (H : Hp) : List D → List V → Prop
  | [], [] => True
  | d :: ds, v :: vs => FIs G M H d v ∧ FIsL G M H ds vs
  | _, _ => False
def clsF (c : Str) : List Str := if c = "Writer" then ["given", "rows", "ends", "needed", "fits"] else if c = "Library" then ["kept", "steps"] else []
def MIs (G : Gx) (M : Mem) (H : Hp) (a : Addr) : MO → Prop
  | .lst ds => pureL ds = true ∧ ∃ xs, H a = some (.lst xs) ∧ IsL G M H ds xs
  | .obj c ds => ds.length ≤ (clsF c).length ∧ ∃ dx vs, H a = some (.ins (He.ga G.K c) dx ((clsF c).zip vs)) ∧ FIsL G M H ds vs
  | .dct ks ds => pureL ds = true ∧ ks.length = ds.length ∧ ∃ xs, H a = some (.dK (ks.zip xs)) ∧ IsL G M H ds xs
  | .lck o xs ks ds => pureL ds = true ∧ ks.length = ds.length ∧ H a = some (.frz o (.dK (ks.zip xs))) ∧ IsL G M H ds xs
  | .lso ds => ∃ xs, H a = some (.lst xs) ∧ FIsL G M H ds xs
def Own (G : Gx) (M : Mem) (H : Hp) : Prop := ∀ a m, M a = some m → MIs G M H a m
structure Ext (M M' : Mem) (H H' : Hp) : Prop where
  st : ∀ a o, M a = none → H a = some o → H' a = some o ∧ M' a = none
  ow : ∀ a, (M a).isSome = true → (M' a).isSome = true
theorem Ext.refl {M : Mem} {H : Hp} : Ext M M H H := ⟨fun _ _ m h => ⟨h, m⟩, fun _ h => h⟩
theorem Ext.trans {M M1 M2 : Mem} {H H1 H2 : Hp} (a : Ext M M1 H H1) (b : Ext M1 M2 H1 H2) : Ext M M2 H H2 :=
  ⟨fun c o m h => let ⟨h1, m1⟩ := a.st c o m h; b.st c o m1 h1, fun c h => b.ow c (a.ow c h)⟩
theorem Ext.new {M : Mem} {H : Hp} {p : Addr} {o : HO} (h : H p = none) : Ext M M H (upd H p o) :=
  ⟨fun a u m e => ⟨by rw [upd_ne (ne_of_none e h)]; exact e, m⟩, fun _ h => h⟩
theorem Ext.newOwn {M : Mem} {H : Hp} {p : Addr} {o : HO} {m : MO} (h : H p = none) : Ext M (mset M p m) H (upd H p o) :=
  ⟨fun a u mm e => ⟨by rw [upd_ne (ne_of_none e h)]; exact e, by rw [mset_ne (ne_of_none e h)]; exact mm⟩, fun a ha => by
    unfold mset; split
    · rfl
    · exact ha⟩
theorem Ext.put {M : Mem} {H : Hp} {p : Addr} {o : HO} {m : MO} (h : (M p).isSome = true) : Ext M (mset M p m) H (upd H p o) :=
  ⟨fun a u mm e => by
    have ne : a ≠ p := fun z => by rw [z] at mm; rw [mm] at h; cases h
    exact ⟨by rw [upd_ne ne]; exact e, by rw [mset_ne ne]; exact mm⟩, fun a ha => by
    unfold mset; split
    · rfl
    · exact ha⟩
mutual
theorem Is.ext {G : Gx} {M M' : Mem} {H H' : Hp} (x : Ext M M' H H') : ∀ (d : D) (v : V), Is G M H d v → Is G M' H' d v
  | .non, _, h => h
  | .bl _, _, h => h
  | .int _, _, h => h
  | .str _, _, h => h
  | .tup ds, _, h => by
    unfold Is at h ⊢
    obtain ⟨a, xs, e, m, ha, hl⟩ := h
    exact ⟨a, xs, e, (x.st a _ m ha).2, (x.st a _ m ha).1, IsL.ext x ds xs hl⟩
  | .lst ds, _, h => by
    unfold Is at h ⊢
    obtain ⟨a, xs, e, m, ha, hl⟩ := h
    exact ⟨a, xs, e, (x.st a _ m ha).2, (x.st a _ m ha).1, IsL.ext x ds xs hl⟩
  | .scr ns, _, h => by
    unfold Is at h ⊢
    obtain ⟨a, e, h⟩ := h
    rcases h with ⟨m, o, ha⟩ | h
    · exact ⟨a, e, .inl ⟨(x.st a _ m ha).2, o, (x.st a _ m ha).1⟩⟩
    · exact ⟨a, e, .inr h⟩
  | .ln t p o, _, h => by
    unfold Is at h ⊢
    obtain ⟨a, dx, q, e, m, ha, mq, hq⟩ := h
    exact ⟨a, dx, q, e, (x.st a _ m ha).2, (x.st a _ m ha).1, (x.st q _ mq hq).2, (x.st q _ mq hq).1⟩
  | .own a, _, h => by
    unfold Is at h ⊢
    exact ⟨h.1, x.ow a h.2⟩
  | .exn c f, _, h => by
    unfold Is at h ⊢
    obtain ⟨a, dd, u, e, m, ha, md, hd, hf⟩ := h
    exact ⟨a, dd, u, e, (x.st a _ m ha).2, (x.st a _ m ha).1, (x.st dd _ md hd).2, (x.st dd _ md hd).1, Is.ext x f u hf⟩
  | .cls, _, h => by
    unfold Is at h ⊢
    exact h
  | .exn0 c, _, h => by
    unfold Is at h ⊢
    obtain ⟨a, e, m, ha⟩ := h
    exact ⟨a, e, (x.st a _ m ha).2, (x.st a _ m ha).1⟩
  | .dct ks ds, _, h => by
    unfold Is at h ⊢
    obtain ⟨a, xs, e, m, ha, hn, hl⟩ := h
    exact ⟨a, xs, e, (x.st a _ m ha).2, (x.st a _ m ha).1, hn, IsL.ext x ds xs hl⟩
theorem IsL.ext {G : Gx} {M M' : Mem} {H H' : Hp} (x : Ext M M' H H') : ∀ (ds : List D) (vs : List V), IsL G M H ds vs → IsL G M' H' ds vs
  | [], [], _ => by unfold IsL; trivial
  | [], _ :: _, h => by unfold IsL at h; exact h.elim
  | _ :: _, [], h => by unfold IsL at h; exact h.elim
  | d :: ds, v :: vs, h => by
    unfold IsL at h ⊢
    exact ⟨Is.ext x d v h.1, IsL.ext x ds vs h.2⟩
end
theorem IsL.nil {G : Gx} {M : Mem} {H : Hp} : IsL G M H [] [] := by unfold IsL; trivial
theorem IsL.cons {G : Gx} {M : Mem} {H : Hp} {d : D} {v : V} {ds : List D} {vs : List V} (h : Is G M H d v) (t : IsL G M H ds vs) : IsL G M H (d :: ds) (v :: vs) := by unfold IsL; exact ⟨h, t⟩
theorem IsL.len {G : Gx} {M : Mem} {H : Hp} : ∀ {ds : List D} {vs : List V}, IsL G M H ds vs → ds.length = vs.length
  | [], [], _ => rfl
  | [], _ :: _, h => by unfold IsL at h; exact h.elim
  | _ :: _, [], h => by unfold IsL at h; exact h.elim
  | _ :: ds, _ :: vs, h => by unfold IsL at h; exact congrArg Nat.succ (IsL.len h.2)
theorem IsL.get {G : Gx} {M : Mem} {H : Hp} : ∀ {ds : List D} {vs : List V} {i : Nat} {d : D}, IsL G M H ds vs → ds[i]? = some d → ∃ v, vs[i]? = some v ∧ Is G M H d v
  | [], _, _, _, _, e => by simp at e
  | _ :: _, [], _, _, h, _ => by unfold IsL at h; exact h.elim
  | d :: ds, v :: vs, 0, _, h, e => by unfold IsL at h; simp at e; subst e; exact ⟨v, rfl, h.1⟩
  | _ :: ds, v :: vs, i + 1, d, h, e => by
    unfold IsL at h
    obtain ⟨u, h1, h2⟩ := IsL.get (i := i) (d := d) h.2 (by simpa using e)
    exact ⟨u, by simpa using h1, h2⟩
theorem IsL.set {G : Gx} {M : Mem} {H : Hp} : ∀ {ds : List D} {vs : List V} {i : Nat} {d : D} {v : V}, IsL G M H ds vs → Is G M H d v → IsL G M H (ds.set i d) (vs.set i v)
  | [], [], _, _, _, _, _ => IsL.nil
  | [], _ :: _, _, _, _, h, _ => by unfold IsL at h; exact h.elim
  | _ :: _, [], _, _, _, h, _ => by unfold IsL at h; exact h.elim
  | _ :: ds, _ :: vs, 0, _, _, h, e => by unfold IsL at h; exact IsL.cons e h.2
  | _ :: ds, _ :: vs, i + 1, d, v, h, e => by unfold IsL at h; exact IsL.cons h.1 (IsL.set (i := i) h.2 e)
theorem IsL.append {G : Gx} {M : Mem} {H : Hp} : ∀ {ds es : List D} {vs us : List V}, IsL G M H ds vs → IsL G M H es us → IsL G M H (ds ++ es) (vs ++ us)
  | [], _, [], _, _, h => h
  | [], _, _ :: _, _, h, _ => by unfold IsL at h; exact h.elim
  | _ :: _, _, [], _, h, _ => by unfold IsL at h; exact h.elim
  | _ :: ds, _, _ :: vs, _, h, g => by unfold IsL at h; exact IsL.cons h.1 (IsL.append h.2 g)
theorem IsL.take {G : Gx} {M : Mem} {H : Hp} : ∀ {ds : List D} {vs : List V} (n : Nat), IsL G M H ds vs → IsL G M H (ds.take n) (vs.take n)
  | _, _, 0, _ => by simp only [List.take_zero]; exact IsL.nil
  | [], [], _ + 1, _ => IsL.nil
  | [], _ :: _, _, h => by unfold IsL at h; exact h.elim
  | _ :: _, [], _, h => by unfold IsL at h; exact h.elim
  | _ :: ds, _ :: vs, n + 1, h => by unfold IsL at h; exact IsL.cons h.1 (IsL.take n h.2)
theorem IsL.drop {G : Gx} {M : Mem} {H : Hp} : ∀ {ds : List D} {vs : List V} (n : Nat), IsL G M H ds vs → IsL G M H (ds.drop n) (vs.drop n)
  | _, _, 0, h => h
  | [], [], _ + 1, _ => IsL.nil
  | [], _ :: _, _, h => by unfold IsL at h; exact h.elim
  | _ :: _, [], _, h => by unfold IsL at h; exact h.elim
  | _ :: ds, _ :: vs, n + 1, h => by unfold IsL at h; exact IsL.drop n h.2
theorem is_int {G : Gx} {M : Mem} {H : Hp} {i : Int} : Is G M H (.int i) (.int i) := by unfold Is; rfl
theorem is_bl {G : Gx} {M : Mem} {H : Hp} {i : Bool} : Is G M H (.bl i) (.bl i) := by unfold Is; rfl
theorem is_str {G : Gx} {M : Mem} {H : Hp} {i : Str} : Is G M H (.str i) (.str i) := by unfold Is; rfl
theorem is_non {G : Gx} {M : Mem} {H : Hp} : Is G M H .non .non := by unfold Is; rfl
theorem FIs.ext {G : Gx} {M M' : Mem} {H H' : Hp} (x : Ext M M' H H') (d : D) (v : V) (h : FIs G M H d v) : FIs G M' H' d v := by
  cases d with
  | own b => exact h
  | _ => exact ⟨h.1, Is.ext x _ _ h.2⟩
theorem FIsL.ext {G : Gx} {M M' : Mem} {H H' : Hp} (x : Ext M M' H H') : ∀ (ds : List D) (vs : List V), FIsL G M H ds vs → FIsL G M' H' ds vs
  | [], [], _ => trivial
  | [], _ :: _, h => h.elim
  | _ :: _, [], h => h.elim
  | d :: ds, v :: vs, h => ⟨FIs.ext x d v h.1, FIsL.ext x ds vs h.2⟩
theorem MIs.ext {G : Gx} {M M' : Mem} {H H' : Hp} {a : Addr} (x : Ext M M' H H') (k : H' a = H a) : ∀ (m : MO), MIs G M H a m → MIs G M' H' a m
  | .lst ds, ⟨pu, xs, h1, h2⟩ => ⟨pu, xs, by rw [k]; exact h1, IsL.ext x ds xs h2⟩
  | .obj _ ds, ⟨hl, dx, vs, h1, h2⟩ => ⟨hl, dx, vs, by rw [k]; exact h1, FIsL.ext x ds vs h2⟩
  | .dct _ ds, ⟨pu, hn, xs, h1, h2⟩ => ⟨pu, hn, xs, by rw [k]; exact h1, IsL.ext x ds xs h2⟩
  | .lck _ xs _ ds, ⟨pu, hn, h1, h2⟩ => ⟨pu, hn, by rw [k]; exact h1, IsL.ext x ds xs h2⟩
  | .lso ds, ⟨xs, h1, h2⟩ => ⟨xs, by rw [k]; exact h1, FIsL.ext x ds xs h2⟩
theorem MIs.there {G : Gx} {M : Mem} {H : Hp} {a : Addr} : ∀ {m : MO}, MIs G M H a m → ∃ u, H a = some u
  | .lst _, ⟨_, _, h1, _⟩ => ⟨_, h1⟩
  | .obj _ _, ⟨_, _, _, h1, _⟩ => ⟨_, h1⟩
  | .dct _ _, ⟨_, _, _, h1, _⟩ => ⟨_, h1⟩
  | .lck _ _ _ _, ⟨_, _, h1, _⟩ => ⟨_, h1⟩
  | .lso _, ⟨_, h1, _⟩ => ⟨_, h1⟩
theorem Own.ext {G : Gx} {M : Mem} {H H' : Hp} (o : Own G M H) (x : Ext M M H H') (k : ∀ a, (M a).isSome = true → H' a = H a) : Own G M H' := fun a m e =>
  MIs.ext x (k a (by rw [e]; rfl)) m (o a m e)
theorem Own.there {G : Gx} {M : Mem} {H : Hp} (o : Own G M H) {a : Addr} (h : (M a).isSome = true) : ∃ u, H a = some u := by
  cases e : M a with
  | none => rw [e] at h; cases h
  | some m => exact (o a m e).there
theorem Own.fresh {G : Gx} {M : Mem} {H : Hp} (o : Own G M H) {p : Addr} (h : H p = none) : M p = none := by
  cases e : M p with
  | none => rfl
  | some m =>
    obtain ⟨u, hu⟩ := o.there (a := p) (by rw [e]; rfl)
    rw [h] at hu; cases hu
theorem Own.new {G : Gx} {M : Mem} {H : Hp} {p : Addr} {u : HO} (o : Own G M H) (h : H p = none) : Own G M (upd H p u) :=
  o.ext (Ext.new h) fun a ha => by
    obtain ⟨w, hw⟩ := o.there ha
    rw [upd_ne (ne_of_none hw h)]
theorem Own.setM {G : Gx} {M : Mem} {H : Hp} {p : Addr} {m' : MO} {u : HO} (o : Own G M H) (x : Ext M (mset M p m') H (upd H p u)) (hm : MIs G (mset M p m') (upd H p u) p m') : Own G (mset M p m') (upd H p u) := fun a m e => by
  by_cases ha : a = p
  · subst ha
    rw [mset_same] at e
    cases e
    exact hm
  · rw [mset_ne ha] at e
    exact MIs.ext x (upd_ne ha) m (o a m e)
theorem Own.newOwn {G : Gx} {M : Mem} {H : Hp} {p : Addr} {ds : List D} {xs : List V} (o : Own G M H) (h : H p = none) (pu : pureL ds = true) (hl : IsL G M H ds xs) : Own G (mset M p (.lst ds)) (upd H p (.lst xs)) :=
  o.setM (Ext.newOwn h) ⟨pu, xs, upd_same, IsL.ext (Ext.newOwn h) ds xs hl⟩
theorem Own.put {G : Gx} {M : Mem} {H : Hp} {p : Addr} {ds : List D} {xs : List V} (o : Own G M H) (h : (M p).isSome = true) (pu : pureL ds = true) (hl : IsL G M H ds xs) : Own G (mset M p (.lst ds)) (upd H p (.lst xs)) :=
  o.setM (Ext.put h) ⟨pu, xs, upd_same, IsL.ext (Ext.put h) ds xs hl⟩
mutual
theorem Is.sub {G : Gx} {M M' : Mem} {H : Hp} (x : ∀ a, M a = none → M' a = none) : ∀ (d : D) (v : V), pureD d = true → Is G M H d v → Is G M' H d v
  | .non, _, _, h => h
  | .bl _, _, _, h => h
  | .int _, _, _, h => h
  | .str _, _, _, h => h
  | .tup ds, _, p, h => by
    unfold Is at h ⊢
    unfold pureD at p
    obtain ⟨a, xs, e, m, ha, hl⟩ := h
    exact ⟨a, xs, e, x a m, ha, IsL.sub x ds xs p hl⟩
  | .lst ds, _, p, h => by
    unfold Is at h ⊢
    unfold pureD at p
    obtain ⟨a, xs, e, m, ha, hl⟩ := h
    exact ⟨a, xs, e, x a m, ha, IsL.sub x ds xs p hl⟩
  | .scr ns, _, _, h => by
    unfold Is at h ⊢
    obtain ⟨a, e, h⟩ := h
    rcases h with ⟨m, o, ha⟩ | h
    · exact ⟨a, e, .inl ⟨x a m, o, ha⟩⟩
    · exact ⟨a, e, .inr h⟩
  | .ln t p o, _, _, h => by
    unfold Is at h ⊢
    obtain ⟨a, dx, q, e, m, ha, mq, hq⟩ := h
    exact ⟨a, dx, q, e, x a m, ha, x q mq, hq⟩
  | .own a, _, p, h => by unfold pureD at p; cases p
  | .exn c f, _, p, h => by
    unfold Is at h ⊢
    unfold pureD at p
    obtain ⟨a, dd, u, e, m, ha, md, hd, hf⟩ := h
    exact ⟨a, dd, u, e, x a m, ha, x dd md, hd, Is.sub x f u p hf⟩
  | .cls, _, _, h => by
    unfold Is at h ⊢
    exact h
  | .exn0 c, _, _, h => by
    unfold Is at h ⊢
    obtain ⟨a, e, m, ha⟩ := h
    exact ⟨a, e, x a m, ha⟩
  | .dct ks ds, _, p, h => by
    unfold Is at h ⊢
    unfold pureD at p
    obtain ⟨a, xs, e, m, ha, hn, hl⟩ := h
    exact ⟨a, xs, e, x a m, ha, hn, IsL.sub x ds xs p hl⟩
theorem IsL.sub {G : Gx} {M M' : Mem} {H : Hp} (x : ∀ a, M a = none → M' a = none) : ∀ (ds : List D) (vs : List V), pureL ds = true → IsL G M H ds vs → IsL G M' H ds vs
  | [], [], _, _ => by unfold IsL; trivial
  | [], _ :: _, _, h => by unfold IsL at h; exact h.elim
  | _ :: _, [], _, h => by unfold IsL at h; exact h.elim
  | d :: ds, v :: vs, p, h => by
    unfold IsL at h ⊢
    unfold pureL at p
    rw [Bool.and_eq_true] at p
    exact ⟨Is.sub x d v p.1 h.1, IsL.sub x ds vs p.2 h.2⟩
end
def Sub (M2 M : Mem) : Prop := ∀ a m, M2 a = some m → M a = some m
theorem Sub.non {M2 M : Mem} (s : Sub M2 M) {a : Addr} (h : M a = none) : M2 a = none := by
  cases e : M2 a with
  | none => rfl
  | some m => rw [s a m e] at h; cases h
theorem Sub.refl {M : Mem} : Sub M M := fun _ _ h => h
theorem Sub.set {M : Mem} {p : Addr} {m : MO} (h : M p = none) : Sub M (mset M p m) := fun a n e => by
  have ne : a ≠ p := fun z => by rw [z, h] at e; cases e
  rw [mset_ne ne]; exact e
theorem FIsL.sub {G : Gx} {M M' : Mem} {H : Hp} (x : ∀ a, M a = none → M' a = none) : ∀ (ds : List D) (vs : List V), FIsL G M H ds vs → FIsL G M' H ds vs
  | [], [], _ => trivial
  | [], _ :: _, h => h.elim
  | _ :: _, [], h => h.elim
  | d :: ds, v :: vs, h => ⟨by
    have h1 := h.1
    cases d with
    | own b => exact h1
    | _ => exact ⟨h1.1, Is.sub x _ _ h1.1 h1.2⟩, FIsL.sub x ds vs h.2⟩
theorem Own.sub {G : Gx} {M M2 : Mem} {H : Hp} (o : Own G M H) (s : Sub M2 M) : Own G M2 H := fun a m e => by
  have q := o a m (s a m e)
  cases m with
  | lst ds =>
    obtain ⟨pu, xs, h1, h2⟩ := q
    exact ⟨pu, xs, h1, IsL.sub (fun b hb => s.non hb) ds xs pu h2⟩
  | obj c ds =>
    obtain ⟨hl, dx, vs, h1, h2⟩ := q
    exact ⟨hl, dx, vs, h1, FIsL.sub (fun b hb => s.non hb) ds vs h2⟩
  | dct ks ds =>
    obtain ⟨pu, hn, xs, h1, h2⟩ := q
    exact ⟨pu, hn, xs, h1, IsL.sub (fun b hb => s.non hb) ds xs pu h2⟩
  | lck o xs ks ds =>
    obtain ⟨pu, hn, h1, h2⟩ := q
    exact ⟨pu, hn, h1, IsL.sub (fun b hb => s.non hb) ds xs pu h2⟩
  | lso ds =>
    obtain ⟨xs, h1, h2⟩ := q
    exact ⟨xs, h1, FIsL.sub (fun b hb => s.non hb) ds xs h2⟩
theorem Ext.sub {M M' M2 : Mem} {H H' : Hp} (x : Ext M M' H H') (s : Sub M2 M') (d : ∀ a, (M a).isSome = true → (M2 a).isSome = true) : Ext M M2 H H' :=
  ⟨fun a o m h => ⟨(x.st a o m h).1, s.non (x.st a o m h).2⟩, d⟩
abbrev Gm := List (Option D)
def gt : Gm → Nat → Option D
  | [], _ => none
  | x :: _, 0 => x
  | _ :: r, n + 1 => gt r n
def gset : Gm → Nat → Option D → Gm
  | [], _, _ => []
  | _ :: r, 0, d => d :: r
  | x :: r, n + 1, d => x :: gset r n d
def SlR (G : Gx) (M : Mem) (H : Hp) : Gm → St → Prop
  | [], [] => True
  | none :: r, _ :: s => SlR G M H r s
  | some d :: r, x :: s => (∃ v, x = some v ∧ Is G M H d v) ∧ SlR G M H r s
  | _, _ => False
theorem SlR.ext {G : Gx} {M M' : Mem} {H H' : Hp} (x : Ext M M' H H') : ∀ {γ : Gm} {σ : St}, SlR G M H γ σ → SlR G M' H' γ σ
  | [], [], _ => trivial
  | [], _ :: _, h => h.elim
  | _ :: _, [], h => by rename_i a b; cases a <;> exact h.elim
  | none :: r, _ :: s, h => SlR.ext (γ := r) (σ := s) x h
  | some d :: r, y :: s, h => ⟨let ⟨v, e, q⟩ := h.1; ⟨v, e, Is.ext x d v q⟩, SlR.ext (γ := r) (σ := s) x h.2⟩
theorem SlR.get {G : Gx} {M : Mem} {H : Hp} : ∀ {γ : Gm} {σ : St} {i : Nat} {d : D}, SlR G M H γ σ → gt γ i = some d → ∃ v, σ[i]? = some (some v) ∧ Is G M H d v
  | [], _, _, _, _, e => by cases e
  | a :: _, [], _, _, h, _ => by cases a <;> exact h.elim
  | none :: r, _ :: s, 0, _, _, e => by cases e
  | some d :: r, y :: s, 0, d', h, e => by
    have e' : some d = some d' := e
    cases e'
    obtain ⟨⟨v, e1, q⟩, _⟩ := h
    exact ⟨v, by simp [e1], q⟩
  | none :: r, y :: s, i + 1, d, h, e => by
    obtain ⟨v, h1, h2⟩ := SlR.get (γ := r) (σ := s) (i := i) (d := d) h e
    exact ⟨v, by simpa using h1, h2⟩
  | some _ :: r, y :: s, i + 1, d, h, e => by
    obtain ⟨v, h1, h2⟩ := SlR.get (γ := r) (σ := s) (i := i) (d := d) h.2 e
    exact ⟨v, by simpa using h1, h2⟩
theorem SlR.set {G : Gx} {M : Mem} {H : Hp} : ∀ {γ : Gm} {σ : St} {i : Nat} {d : D} {v : V}, SlR G M H γ σ → Is G M H d v → SlR G M H (gset γ i (some d)) (σ.set i (some v))
  | [], [], _, _, _, _, _ => trivial
  | [], _ :: _, _, _, _, h, _ => h.elim
  | a :: _, [], _, _, _, h, _ => by cases a <;> exact h.elim
  | none :: r, y :: s, 0, d, v, h, e => ⟨⟨v, rfl, e⟩, h⟩
  | some _ :: r, y :: s, 0, d, v, h, e => ⟨⟨v, rfl, e⟩, h.2⟩
  | none :: r, y :: s, i + 1, d, v, h, e => SlR.set (γ := r) (σ := s) (i := i) h e
  | some _ :: r, y :: s, i + 1, d, v, h, e => ⟨h.1, SlR.set (γ := r) (σ := s) (i := i) h.2 e⟩
structure Rel (G : Gx) (M : Mem) (γ : Gm) (σ : St) (H : Hp) : Prop where
  sl : SlR G M H γ σ
  ow : Own G M H
theorem Rel.mk' {G : Gx} {M M' : Mem} {γ : Gm} {σ : St} {H H' : Hp} (r : Rel G M γ σ H) (x : Ext M M' H H') (o : Own G M' H') : Rel G M' γ σ H' := ⟨r.sl.ext x, o⟩
abbrev DR := D → Mem → Prop
abbrev DE := Gm → Mem → DR → Prop
abbrev DT := Gm → Mem → (Bool → Mem → Prop) → Prop
abbrev DA := Gm → Mem → (List D → Mem → Prop) → Prop
def Snd (G : Gx) (t : TE) (v : DE) : Prop := ∀ (γ : Gm) (M : Mem) (R : DR) (σ : St) (H : Hp) (Q : VK), Rel G M γ σ H → v γ M R →
  (∀ d M' x H', Own G M' H' → Is G M' H' d x → Ext M M' H H' → R d M' → Q x H') → t σ H Q
def SndT (G : Gx) (t : TT) (v : DT) : Prop := ∀ (γ : Gm) (M : Mem) (R : Bool → Mem → Prop) (σ : St) (H : Hp) (Q : Bool → Hp → Prop), Rel G M γ σ H → v γ M R →
  (∀ b M' H', Own G M' H' → Ext M M' H H' → R b M' → Q b H') → t σ H Q
def SndA (G : Gx) (t : TA) (v : DA) : Prop := ∀ (γ : Gm) (M : Mem) (R : List D → Mem → Prop) (σ : St) (H : Hp) (Q : List V → Hp → Prop), Rel G M γ σ H → v γ M R →
  (∀ ds M' xs H', Own G M' H' → IsL G M' H' ds xs → Ext M M' H H' → R ds M' → Q xs H') → t σ H Q
structure QE (X : Cx) (C : Addr) (e : Expr) (v : DE) : Prop where
  ex : ∃ t, PE X e t ∧ Snd ⟨X.K, C⟩ t v
structure QT (X : Cx) (C : Addr) (e : Expr) (v : DT) : Prop where
  ex : ∃ t, PT X e t ∧ SndT ⟨X.K, C⟩ t v
structure QA (X : Cx) (C : Addr) (es : List Expr) (v : DA) : Prop where
  ex : ∃ t, PA X es t ∧ SndA ⟨X.K, C⟩ t v
def vVar (i : Nat) : DE := fun γ M R => match gt γ i with
  | some d => R d M
  | none => False
def vC (d : D) : DE := fun _ M R => R d M
section
variable {X : Cx} {C : Addr} {a b : Expr} {va vb : DE} {pos : Pos}
theorem snd_var {G : Gx} {i : Nat} : Snd G (tVar i) (vVar i) := fun γ M R σ H Q r h k => by
  unfold vVar at h
  cases e : gt γ i with
  | none => rw [e] at h; exact h.elim
  | some d =>
    rw [e] at h
    obtain ⟨v, h1, h2⟩ := r.sl.get e
    exact ⟨v, h1, k d M v H r.ow h2 Ext.refl h⟩
theorem qv (i : Nat) {x : Str} {pos : Pos} (hN : X.N[i]? = some x := by rfl) (hv : Vis X.env.scope x := by first | exact Or.inl rfl | exact Or.inr (Or.inl rfl) | exact Or.inr (Or.inr rfl)) (hd : (x == ("__debug__" : Str)) = false := by decide)
    (hcd : (x == ("__classdict__" : Str)) = false := by decide) : QE X C (.Name x pos) (vVar i) := ⟨_, pe_var hN hv hd hcd, snd_var⟩
theorem qi {i j pos} : QE X C (.Constant (.int i) j pos) (vC (.int i)) := ⟨_, pe_int, fun _ M R _ H Q r h k => k _ M _ H r.ow is_int Ext.refl h⟩
theorem qb {i j pos} : QE X C (.Constant (.bool i) j pos) (vC (.bl i)) := ⟨_, pe_bl, fun _ M R _ H Q r h k => k _ M _ H r.ow is_bl Ext.refl h⟩
theorem qs {i j pos} : QE X C (.Constant (.str i) j pos) (vC (.str i)) := ⟨_, pe_str, fun _ M R _ H Q r h k => k _ M _ H r.ow is_str Ext.refl h⟩
theorem qn {j pos} : QE X C (.Constant .none j pos) (vC .non) := ⟨_, pe_non, fun _ M R _ H Q r h k => k _ M _ H r.ow is_non Ext.refl h⟩
theorem qgs {x : Str} {i : Str} {pos : Pos} (hg : Gl X x) (hm : ∃ t, X.mg x = some (.str i t)) (hd : (x == ("__debug__" : Str)) = false := by decide) : QE X C (.Name x pos) (vC (.str i)) := by
  obtain ⟨t, e⟩ := hm
  exact ⟨_, pe_glob (v := .str i) hg e ⟨t, rfl⟩ hd, fun _ M R _ H Q r h k => k _ M _ H r.ow is_str Ext.refl h⟩
abbrev DO := D → D → Mem → DR → Prop
def SndO (G : Gx) (r : R2) (o : DO) : Prop := ∀ (d e : D) (M : Mem) (R : DR) (H : Hp) (x y : V) (Q : VK), Own G M H → Is G M H d x → Is G M H e y → o d e M R →
  (∀ d M' x H', Own G M' H' → Is G M' H' d x → Ext M M' H H' → R d M' → Q x H') → r x y H Q
def vOp (o : DO) (a b : DE) : DE := fun γ M R => a γ M fun x M1 => b γ M1 fun y M2 => o x y M2 R
theorem snd_op {G : Gx} {ta tb : TE} {r : R2} {o : DO} (ha : Snd G ta va) (hb : Snd G tb vb) (so : SndO G r o) : Snd G (tOp r ta tb) (vOp o va vb) := fun γ M R σ H Q re h k =>
  ha γ M _ σ H _ re h fun d M1 x H1 o1 i1 e1 h1 => hb γ M1 _ σ H1 _ (re.mk' e1 o1) h1 fun d2 M2 y H2 o2 i2 e2 h2 =>
    so d d2 M2 R H2 x y Q o2 (Is.ext e2 d x i1) i2 h2 fun d3 M3 z H3 o3 i3 e3 h3 => k d3 M3 z H3 o3 i3 ((e1.trans e2).trans e3) h3
theorem qe_op {op : Operator} {r : R2} {o : DO} (ho : OpR X (binaryOp op) r) (so : SndO ⟨X.K, C⟩ r o) (ha : QE X C a va) (hb : QE X C b vb) : QE X C (.BinOp a op b pos) (vOp o va vb) := by
  obtain ⟨ta, pa, sa⟩ := ha.ex
  obtain ⟨tb, pb, sb⟩ := hb.ex
  exact ⟨_, pe_op ho pa pb, snd_op sa sb so⟩
def oI (K : Int → Int → Prop) (g : Int → Int → D) : DO := fun d e M R => match d, e with
  | .int i, .int j => K i j ∧ R (g i j) M
  | _, _ => False
def oI0 (g : Int → Int → D) : DO := fun d e M R => match d, e with
  | .int i, .int j => R (g i j) M
  | _, _ => False
theorem sndO_I {G : Gx} {K : Int → Int → Prop} {g : Int → Int → D} {gv : Int → Int → V} (hg : ∀ i j (M : Mem) (H : Hp), Is G M H (g i j) (gv i j)) : SndO G (rI K gv) (oI K g) := fun d e M R H x y Q o i1 i2 h k => by
  cases d with
  | int i =>
    cases e with
    | int j =>
      unfold Is at i1 i2
      obtain ⟨hk, hr⟩ : K i j ∧ R (g i j) M := h
      exact ⟨i, j, i1, i2, hk, k _ M _ H o (hg i j M H) Ext.refl hr⟩
    | _ => exact False.elim h
  | _ => exact False.elim h
theorem sndO_I0 {G : Gx} {g : Int → Int → D} {gv : Int → Int → V} (hg : ∀ i j (M : Mem) (H : Hp), Is G M H (g i j) (gv i j)) : SndO G (rI0 gv) (oI0 g) := fun d e M R H x y Q o i1 i2 h k => by
  cases d with
  | int i =>
    cases e with
    | int j =>
      unfold Is at i1 i2
      exact ⟨i, j, i1, i2, k _ M _ H o (hg i j M H) Ext.refl h⟩
    | _ => exact False.elim h
  | _ => exact False.elim h
theorem q_sub (ha : QE X C a va) (hb : QE X C b vb) : QE X C (.BinOp a .Sub b pos) (vOp (oI0 fun i j => .int (i - j)) va vb) := qe_op op_sub (sndO_I0 fun _ _ _ _ => is_int) ha hb
theorem op_mulX : OpR X (binaryOp .Mult) (rI IntMulOk fun i j => .int (i * j)) := opI fun _ _ _ _ _ _ _ hc q => PyProof.Rows.mul_int q hc
theorem q_mul (ha : QE X C a va) (hb : QE X C b vb) : QE X C (.BinOp a .Mult b pos) (vOp (oI IntMulOk fun i j => .int (i * j)) va vb) := qe_op op_mulX (sndO_I fun _ _ _ _ => is_int) ha hb
def CD (_ j : Int) : Prop := 0 < j ∧ j.natAbs.log2 < 9000
theorem op_divX : OpR X (binaryOp .FloorDiv) (rI CD fun i j => .int (i / j)) := opI fun i j _ _ _ _ _ hc q => by
  have h1 : (0 : Int) < j := hc.1
  exact PyProof.Rows.floordiv_int (by omega) (by rw [Int.fdiv_eq_ediv_of_nonneg i (by omega)]; exact q) (.inl (PyProof.noPylong_of_log2 hc.2))
theorem q_div (ha : QE X C a va) (hb : QE X C b vb) : QE X C (.BinOp a .FloorDiv b pos) (vOp (oI CD fun i j => .int (i / j)) va vb) := qe_op op_divX (sndO_I fun _ _ _ _ => is_int) ha hb
theorem q_mod (ha : QE X C a va) (hb : QE X C b vb) : QE X C (.BinOp a .Mod b pos) (vOp (oI (fun _ j => 0 < j) fun i j => .int (i % j)) va vb) := qe_op op_mod (sndO_I fun _ _ _ _ => is_int) ha hb
end
end Dl
namespace Dl
open PySem L2
def seqI (M : Mem) : D → Option (List D)
  | .lst xs => some xs
  | .tup xs => some xs
  | .scr ns => some (ns.map D.int)
  | .own a => match M a with
    | some (.lst xs) => some xs
    | _ => none
  | _ => none
theorem isL_ints {G : Gx} {M : Mem} {H : Hp} : ∀ ns : List Int, IsL G M H (ns.map D.int) (ns.map V.int)
  | [] => IsL.nil
  | n :: r => IsL.cons is_int (isL_ints r)
def isTup : D → Bool
  | .tup _ => true
  | _ => false
theorem seq_at {G : Gx} {M : Mem} {H : Hp} {d : D} {v : V} {ds : List D} (o : Own G M H) (h : Is G M H d v) (e : seqI M d = some ds) :
    ∃ a xs, v = .ref a ∧ IsL G M H ds xs ∧ ((isTup d = false ∧ SqL G.K H a xs) ∨ (isTup d = true ∧ SqT G.K H a xs)) := by
  cases d with
  | lst xs =>
    unfold Is at h
    obtain ⟨a, ys, e1, m, ha, hl⟩ := h
    cases e
    exact ⟨a, ys, e1, hl, .inl ⟨rfl, SqL.of ha⟩⟩
  | tup xs =>
    unfold Is at h
    obtain ⟨a, ys, e1, m, ha, hl⟩ := h
    cases e
    exact ⟨a, ys, e1, hl, .inr ⟨rfl, SqT.of ha⟩⟩
  | scr ns =>
    unfold Is at h
    obtain ⟨a, e1, h⟩ := h
    cases e
    refine ⟨a, ns.map V.int, e1, isL_ints ns, .inl ⟨rfl, ?_⟩⟩
    rcases h with ⟨m, ob, ha⟩ | h
    · exact .inl (.inr ⟨ob, ha⟩)
    · exact .inr h
  | own a =>
    unfold Is at h
    obtain ⟨e1, hs⟩ := h
    cases q : M a with
    | none => rw [q] at hs; cases hs
    | some m =>
      cases m with
      | lst xs =>
        simp only [seqI, q] at e
        cases e
        obtain ⟨_, ys, ha, hl⟩ := o a _ q
        exact ⟨a, ys, e1, hl, .inl ⟨rfl, SqL.of ha⟩⟩
      | _ => simp only [seqI, q] at e; cases e
  | _ => cases e
def lstI (M : Mem) : D → Option (List D)
  | .lst xs => some xs
  | .own a => match M a with
    | some (.lst xs) => some xs
    | _ => none
  | _ => none
theorem lst_at {G : Gx} {M : Mem} {H : Hp} {d : D} {v : V} {ds : List D} (o : Own G M H) (h : Is G M H d v) (e : lstI M d = some ds) : ∃ a xs, v = .ref a ∧ IsL G M H ds xs ∧ H a = some (.lst xs) := by
  cases d with
  | lst xs =>
    unfold Is at h
    obtain ⟨a, ys, e1, m, ha, hl⟩ := h
    cases e
    exact ⟨a, ys, e1, hl, ha⟩
  | own a =>
    unfold Is at h
    obtain ⟨e1, hs⟩ := h
    cases q : M a with
    | none => rw [q] at hs; cases hs
    | some m =>
      cases m with
      | lst xs =>
        simp only [lstI, q] at e
        cases e
        obtain ⟨_, ys, ha, hl⟩ := o a _ q
        exact ⟨a, ys, e1, hl, ha⟩
      | _ => simp only [lstI, q] at e; cases e
  | _ => cases e
theorem new_lst {G : Gx} {M : Mem} {H : Hp} {p : Addr} {ds : List D} {xs : List V} (o : Own G M H) (h : H p = none) (hl : IsL G M H ds xs) : Is G M (upd H p (.lst xs)) (.lst ds) (.ref p) := by
  unfold Is
  exact ⟨p, xs, rfl, o.fresh h, upd_same, IsL.ext (Ext.new h) ds xs hl⟩
theorem new_tup {G : Gx} {M : Mem} {H : Hp} {p : Addr} {ds : List D} {xs : List V} (o : Own G M H) (h : H p = none) (hl : IsL G M H ds xs) : Is G M (upd H p (.tup xs)) (.tup ds) (.ref p) := by
  unfold Is
  exact ⟨p, xs, rfl, o.fresh h, upd_same, IsL.ext (Ext.new h) ds xs hl⟩
theorem is_own {G : Gx} {M : Mem} {H : Hp} {p : Addr} {m : MO} : Is G (mset M p m) H (.own p) (.ref p) := by
  unfold Is
  exact ⟨rfl, by rw [mset_same]; rfl⟩
section
variable {X : Cx} {C : Addr} {a b c : Expr} {va vb vc : DE} {pos : Pos}
def rAddAll (K : PySem.W.Frag) : R2 := fun x y H Q => (∃ i j, x = .int i ∧ y = .int j ∧ Q (.int (i + j)) H) ∨ ((∃ i j, x = .str i ∧ y = .str j ∧ i.length + j.length ≤ sizeLine ∧ Q (.str (i ++ j)) H) ∨ rCat x y H Q)
theorem op_addAll : OpR X (binaryOp .Add) (rAddAll X.K) := OpR.or op_add (OpR.or op_add_str op_cat)
def oAdd : DO := fun d e M R => match d, e with
  | .int i, .int j => R (.int (i + j)) M
  | .str i, .str j => i.length + j.length ≤ sizeLine ∧ R (.str (i ++ j)) M
  | d, e => match lstI M d, lstI M e with
    | some xs, some ys => xs.length + ys.length ≤ sizeLine ∧ R (.lst (xs ++ ys)) M
    | _, _ => False
theorem sndO_cat {G : Gx} {d e : D} {M : Mem} {R : DR} {H : Hp} {x y : V} {Q : VK} (o : Own G M H) (i1 : Is G M H d x) (i2 : Is G M H e y)
    (h : match lstI M d, lstI M e with | some xs, some ys => xs.length + ys.length ≤ sizeLine ∧ R (.lst (xs ++ ys)) M | _, _ => False)
    (k : ∀ d M' x H', Own G M' H' → Is G M' H' d x → Ext M M' H H' → R d M' → Q x H') : rCat x y H Q := by
  cases e1 : lstI M d with
  | none => rw [e1] at h; exact h.elim
  | some xs =>
    cases e2 : lstI M e with
    | none => rw [e1, e2] at h; exact h.elim
    | some ys =>
      rw [e1, e2] at h
      obtain ⟨hz, hr⟩ := h
      obtain ⟨p, us, rfl, l1, h1⟩ := lst_at o i1 e1
      obtain ⟨q, ws, rfl, l2, h2⟩ := lst_at o i2 e2
      refine ⟨p, q, us, ws, rfl, rfl, h1, h2, by rw [← l1.len, ← l2.len]; exact hz, fun n hn => ?_⟩
      exact k _ M _ _ (o.new hn) (new_lst o hn (l1.append l2)) (Ext.new hn) hr
theorem sndO_add {G : Gx} : SndO G (rAddAll G.K) oAdd := fun d e M R H x y Q o i1 i2 h k => by
  cases d with
  | int i =>
    cases e with
    | int j => unfold Is at i1 i2; exact .inl ⟨i, j, i1, i2, k _ M _ H o is_int Ext.refl h⟩
    | _ => exact .inr (.inr (sndO_cat o i1 i2 h k))
  | str i =>
    cases e with
    | str j => unfold Is at i1 i2; exact .inr (.inl ⟨i, j, i1, i2, h.1, k _ M _ H o is_str Ext.refl h.2⟩)
    | _ => exact .inr (.inr (sndO_cat o i1 i2 h k))
  | _ => exact .inr (.inr (sndO_cat o i1 i2 h k))
theorem q_add (ha : QE X C a va) (hb : QE X C b vb) : QE X C (.BinOp a .Add b pos) (vOp oAdd va vb) := qe_op op_addAll sndO_add ha hb
def CP (i j : Int) : Prop := 0 ≤ j ∧ (Builtin.Int.intBits i : Int) * j ≤ 2 ^ 27
theorem op_powX : OpR X (binaryOp .Pow) (rI CP fun i j => .int (i ^ j.toNat)) := opI fun _ _ _ _ _ _ _ hc q => PyProof.Rows.pow_int hc.1 hc.2 q
theorem q_pow (ha : QE X C a va) (hb : QE X C b vb) : QE X C (.BinOp a .Pow b pos) (vOp (oI CP fun i j => .int (i ^ j.toNat)) va vb) := qe_op op_powX (sndO_I fun _ _ _ _ => is_int) ha hb
def vNeg (a : DE) : DE := fun γ M R => a γ M fun d M1 => match d with
  | .int i => R (.int (-i)) M1
  | _ => False
theorem q_neg (ha : QE X C a va) : QE X C (.UnaryOp .USub a pos) (vNeg va) := by
  obtain ⟨ta, pa, sa⟩ := ha.ex
  refine ⟨_, pe_un un_neg pa, fun γ M R σ H Q re h k => sa γ M _ σ H _ re h fun d M1 x H1 o1 i1 e1 h1 => ?_⟩
  cases d with
  | int i => unfold Is at i1; exact ⟨i, i1, k _ M1 _ H1 o1 is_int e1 h1⟩
  | _ => exact False.elim h1
def vNil : DA := fun _ M R => R [] M
def vCons (a : DE) (r : DA) : DA := fun γ M R => a γ M fun d M1 => r γ M1 fun ds M2 => R (d :: ds) M2
theorem qa_nil : QA X C [] vNil := ⟨_, pa_nil, fun _ M R _ H Q r h k => k _ M _ H r.ow IsL.nil Ext.refl h⟩
theorem snd_cons {G : Gx} {ta : TE} {tr : TA} {vr : DA} (sa : Snd G ta va) (sr : SndA G tr vr) : SndA G (tCons ta tr) (vCons va vr) := fun γ M R σ H Q re h k =>
  sa γ M _ σ H _ re h fun d M1 x H1 o1 i1 e1 h1 => sr γ M1 _ σ H1 _ (re.mk' e1 o1) h1 fun ds M2 xs H2 o2 i2 e2 h2 =>
    k _ M2 _ H2 o2 (IsL.cons (Is.ext e2 d x i1) i2) (e1.trans e2) h2
theorem qa_cons {es : List Expr} {vr : DA} (ha : QE X C a va) (hr : QA X C es vr) (hs : starEach (a :: es) X.env = (false, eval a X.env) :: starEach es X.env := by rfl) : QA X C (a :: es) (vCons va vr) := by
  obtain ⟨ta, pa, sa⟩ := ha.ex
  obtain ⟨tr, pr, sr⟩ := hr.ex
  exact ⟨_, pa_cons pa pr hs, snd_cons sa sr⟩
def vTup (a : DA) : DE := fun γ M R => a γ M fun ds M1 => ds.length ≤ sizeLine ∧ R (.tup ds) M1
def vLst (a : DA) : DE := fun γ M R => a γ M fun ds M1 => ds.length ≤ sizeLine ∧ R (.lst ds) M1
def vLstO (a : DA) : DE := fun γ M R => a γ M fun ds M1 => ds.length ≤ sizeLine ∧ pureL ds = true ∧ ∀ p, M1 p = none → R (.own p) (mset M1 p (.lst ds))
theorem q_tup {es : List Expr} {vr : DA} {k} (hr : QA X C es vr) : QE X C (.Tuple es k pos) (vTup vr) := by
  obtain ⟨tr, pr, sr⟩ := hr.ex
  refine ⟨_, pe_tup pr, fun γ M R σ H Q re h k => sr γ M _ σ H _ re h fun ds M1 xs H1 o1 i1 e1 h1 => ⟨by rw [← i1.len]; exact h1.1, fun p hp => ?_⟩⟩
  exact k _ M1 _ _ (o1.new hp) (new_tup o1 hp i1) (e1.trans (Ext.new hp)) h1.2
theorem q_lst {es : List Expr} {vr : DA} (hr : QA X C es vr) : QE X C (.List es pos) (vLst vr) := by
  obtain ⟨tr, pr, sr⟩ := hr.ex
  refine ⟨_, pe_lst pr, fun γ M R σ H Q re h k => sr γ M _ σ H _ re h fun ds M1 xs H1 o1 i1 e1 h1 => ⟨by rw [← i1.len]; exact h1.1, fun p hp => ?_⟩⟩
  exact k _ M1 _ _ (o1.new hp) (new_lst o1 hp i1) (e1.trans (Ext.new hp)) h1.2
theorem q_lstO {es : List Expr} {vr : DA} (hr : QA X C es vr) : QE X C (.List es pos) (vLstO vr) := by
  obtain ⟨tr, pr, sr⟩ := hr.ex
  refine ⟨_, pe_lst pr, fun γ M R σ H Q re h k => sr γ M _ σ H _ re h fun ds M1 xs H1 o1 i1 e1 h1 => ⟨by rw [← i1.len]; exact h1.1, fun p hp => ?_⟩⟩
  exact k _ (mset M1 p (.lst ds)) _ _ (o1.newOwn hp h1.2.1 i1) is_own (e1.trans (Ext.newOwn hp)) (h1.2.2 p (o1.fresh hp))
def nthD : List D → Nat → Option D
  | [], _ => none
  | x :: _, 0 => some x
  | _ :: r, n + 1 => nthD r n
theorem nthD_eq : ∀ (ds : List D) (n : Nat), nthD ds n = ds[n]?
  | [], _ => by simp [nthD]
  | _ :: _, 0 => by simp [nthD]
  | _ :: r, n + 1 => by simp [nthD, nthD_eq r n]
theorem atI_of_isL {G : Gx} {M : Mem} {H : Hp} {ds : List D} {xs : List V} {i : Int} {d : D} (l : IsL G M H ds xs) (h : atI ds i = some d) : ∃ v, atI xs i = some v ∧ Is G M H d v := by
  unfold atI at h ⊢
  rw [← l.len]
  cases e : ixN ds.length i with
  | none => rw [e] at h; cases h
  | some j =>
    rw [e] at h
    exact l.get h
def oIx : DO := fun d e M R => match seqI M d, e with
  | some ds, .int i => ∃ x, atI ds i = some x ∧ R x M
  | _, _ => False
theorem sndO_ix {G : Gx} : SndO G (rIx G.K) oIx := fun d e M R H x y Q o i1 i2 h k => by
  unfold oIx at h
  cases q : seqI M d with
  | none => rw [q] at h; exact h.elim
  | some ds =>
    rw [q] at h
    cases e with
    | int i =>
      obtain ⟨z, hz, hr⟩ := h
      unfold Is at i2
      obtain ⟨p, xs, e1, l, s⟩ := seq_at o i1 q
      obtain ⟨v, hv, iv⟩ := atI_of_isL l hz
      rcases s with ⟨_, s⟩ | ⟨_, s⟩
      · exact .inl ⟨p, xs, i, v, e1, i2, s, hv, k _ M _ H o iv Ext.refl hr⟩
      · exact .inr (.inl ⟨p, xs, i, v, e1, i2, s, hv, k _ M _ H o iv Ext.refl hr⟩)
    | _ => exact h.elim
theorem q_ix (ha : QE X C a va) (hb : QE X C b vb) (hs : PlainIx b := by exact fun _ _ => rfl) : QE X C (.Subscript a b pos) (vOp oIx va vb) := by
  obtain ⟨ta, pa, sa⟩ := ha.ex
  obtain ⟨tb, pb, sb⟩ := hb.ex
  exact ⟨_, pe_ix ix_seq pa pb hs, snd_op sa sb sndO_ix⟩
def vIxC (n : Nat) (a : DE) : DE := fun γ M R => a γ M fun d M1 => match seqI M1 d with
  | some ds => (match nthD ds n with
    | some x => R x M1
    | none => False)
  | none => False
theorem q_ixC (n : Nat) {i : Int} {j p} (ha : QE X C a va) (hn : i = (n : Int) := by rfl) (hs : PlainIx (.Constant (.int i) j p) := by exact fun _ _ => rfl) : QE X C (.Subscript a (.Constant (.int i) j p) pos) (vIxC n va) := by
  obtain ⟨ta, pa, sa⟩ := ha.ex
  subst hn
  refine ⟨_, pe_ix ix_seq pa pe_int hs, fun γ M R σ H Q re h k => sa γ M _ σ H _ re h fun d M1 x H1 o1 i1 e1 h1 => ?_⟩
  cases q : seqI M1 d with
  | none => rw [q] at h1; exact h1.elim
  | some ds =>
    simp only [q] at h1
    cases q2 : nthD ds n with
    | none => simp only [q2] at h1
    | some z =>
      simp only [q2] at h1
      obtain ⟨p, xs, e2, l, s⟩ := seq_at o1 i1 q
      rw [nthD_eq] at q2
      obtain ⟨v, hv, iv⟩ := l.get q2
      have hv := atI_nat hv
      rcases s with ⟨_, s⟩ | ⟨_, s⟩
      · exact .inl ⟨p, xs, _, v, e2, rfl, s, hv, k _ M1 _ H1 o1 iv e1 h1⟩
      · exact .inr (.inl ⟨p, xs, _, v, e2, rfl, s, hv, k _ M1 _ H1 o1 iv e1 h1⟩)
def cutD (xs : List D) (lo hi : Option Int) : List D := (xs.drop (HT.sIx xs.length 0 lo)).take (HT.sIx xs.length xs.length hi - HT.sIx xs.length 0 lo)
abbrev DPt := Gm → Mem → (Option Int → Mem → Prop) → Prop
structure QO (X : Cx) (C : Addr) (e : Option Expr) (v : DPt) : Prop where
  ex : ∃ t, PO X e t ∧ ∀ (γ : Gm) (M : Mem) (R : Option Int → Mem → Prop) (σ : St) (H : Hp) (Q : Option Int → Hp → Prop), Rel ⟨X.K, C⟩ M γ σ H → v γ M R →
    (∀ o M' H', Own ⟨X.K, C⟩ M' H' → Ext M M' H H' → R o M' → Q o H') → t σ H Q
def vNoPart : DPt := fun _ M R => R none M
def vPart (a : DE) : DPt := fun γ M R => a γ M fun d M1 => match d with
  | .int i => R (some i) M1
  | _ => False
theorem qo_none : QO X C none vNoPart := ⟨_, po_none, fun _ M R _ H Q r h k => k none M H r.ow Ext.refl h⟩
theorem qo_some (ha : QE X C a va) : QO X C (some a) (vPart va) := by
  obtain ⟨ta, pa, sa⟩ := ha.ex
  refine ⟨_, po_some pa, fun γ M R σ H Q re h k => sa γ M _ σ H _ re h fun d M1 x H1 o1 i1 e1 h1 => ?_⟩
  cases d with
  | int i => unfold Is at i1; exact ⟨i, i1, k _ M1 H1 o1 e1 h1⟩
  | _ => exact False.elim h1
def vSl (a : DE) (l h : DPt) : DE := fun γ M R => a γ M fun d M1 => l γ M1 fun lo M2 => h γ M2 fun hi M3 => isTup d = false ∧ match seqI M3 d with
  | some ds => R (.lst (cutD ds lo hi)) M3
  | none => False
theorem isL_cut {G : Gx} {M : Mem} {H : Hp} {ds : List D} {xs : List V} (l : IsL G M H ds xs) (lo hi : Option Int) : IsL G M H (cutD ds lo hi) (cutV xs lo hi) := by
  unfold cutD cutV
  rw [l.len]
  exact (l.drop _).take _
theorem q_sl {lo hi : Option Expr} {vl vh : DPt} {p2} (ha : QE X C a va) (hl : QO X C lo vl) (hh : QO X C hi vh) : QE X C (.Subscript a (.Slice lo hi none p2) pos) (vSl va vl vh) := by
  obtain ⟨ta, pa, sa⟩ := ha.ex
  obtain ⟨tl, pl, sl⟩ := hl.ex
  obtain ⟨th, ph, sh⟩ := hh.ex
  refine ⟨_, pe_slice sl_list pa pl ph, fun γ M R σ H Q re h k => sa γ M _ σ H _ re h fun d M1 x H1 o1 i1 e1 h1 => sl γ M1 _ σ H1 _ (re.mk' e1 o1) h1 fun u M2 H2 o2 e2 h2 => sh γ M2 _ σ H2 _ (re.mk' (e1.trans e2) o2) h2 fun w M3 H3 o3 e3 h3 => ?_⟩
  obtain ⟨nt, h3⟩ := h3
  cases q : seqI M3 d with
  | none => rw [q] at h3; exact h3.elim
  | some ds =>
    rw [q] at h3
    obtain ⟨p, xs, e4, l, s⟩ := seq_at o3 (Is.ext (e2.trans e3) d x i1) q
    rcases s with ⟨_, s⟩ | ⟨z, _⟩
    · exact ⟨p, xs, e4, s, fun n hn => k _ M3 _ _ (o3.new hn) (new_lst o3 hn (isL_cut l u w)) (((e1.trans e2).trans e3).trans (Ext.new hn)) h3⟩
    · rw [nt] at z; cases z
mutual
def toP : D → Option PyData
  | .non => some .none
  | .bl b => some (.bool b)
  | .int i => some (.int i)
  | .str x => some (.str x)
  | .tup ds => (toPL ds).map .tuple
  | .lst ds => (toPL ds).map .list
  | _ => none
def toPL : List D → Option (List PyData)
  | [] => some []
  | d :: ds => match toP d, toPL ds with
    | some p, some ps => some (p :: ps)
    | _, _ => none
end
mutual
theorem toP_ok {G : Gx} {M : Mem} {H : Hp} : ∀ (d : D) (v : V) (p : PyData), Is G M H d v → toP d = some p → Dp G.K H v p
  | .non, v, p, h, e => by unfold Is at h; unfold toP at e; cases e; rw [h]; exact .non
  | .bl b, v, p, h, e => by unfold Is at h; unfold toP at e; cases e; rw [h]; exact .bl b
  | .int b, v, p, h, e => by unfold Is at h; unfold toP at e; cases e; rw [h]; exact .int b
  | .str b, v, p, h, e => by unfold Is at h; unfold toP at e; cases e; rw [h]; exact .str b
  | .tup ds, v, p, h, e => by
    unfold Is at h
    unfold toP at e
    obtain ⟨a, xs, e1, _, ha, hl⟩ := h
    cases q : toPL ds with
    | none => rw [q] at e; cases e
    | some ps =>
      rw [q] at e
      cases e
      rw [e1]
      exact .tup (SqT.of ha) (toPL_ok ds xs ps hl q)
  | .lst ds, v, p, h, e => by
    unfold Is at h
    unfold toP at e
    obtain ⟨a, xs, e1, _, ha, hl⟩ := h
    cases q : toPL ds with
    | none => rw [q] at e; cases e
    | some ps =>
      rw [q] at e
      cases e
      rw [e1]
      exact .lst (SqL.of ha) (toPL_ok ds xs ps hl q)
  | .scr _, v, p, h, e => by unfold toP at e; cases e
  | .ln _ _ _, v, p, h, e => by unfold toP at e; cases e
  | .own _, v, p, h, e => by unfold toP at e; cases e
  | .exn _ _, v, p, h, e => by unfold toP at e; cases e
  | .exn0 _, v, p, h, e => by unfold toP at e; cases e
  | .cls, v, p, h, e => by unfold toP at e; cases e
  | .dct _ _, v, p, h, e => by unfold toP at e; cases e
theorem toPL_ok {G : Gx} {M : Mem} {H : Hp} : ∀ (ds : List D) (vs : List V) (ps : List PyData), IsL G M H ds vs → toPL ds = some ps → DpAll G.K H vs ps
  | [], [], ps, _, e => by unfold toPL at e; cases e; exact .nil
  | [], _ :: _, _, h, _ => by unfold IsL at h; exact h.elim
  | _ :: _, [], _, h, _ => by unfold IsL at h; exact h.elim
  | d :: ds, v :: vs, ps, h, e => by
    unfold IsL at h
    unfold toPL at e
    cases q : toP d with
    | none => rw [q] at e; cases e
    | some p =>
      cases q2 : toPL ds with
      | none => rw [q, q2] at e; cases e
      | some qs =>
        rw [q, q2] at e
        cases e
        exact .cons (toP_ok d v p h.1 q) (toPL_ok ds vs qs h.2 q2)
end
def toPt (M : Mem) : D → Option PyData
  | .own a => match M a with
    | some (.lst ds) => (toPL ds).map .list
    | _ => none
  | d => toP d
theorem toPt_ok {G : Gx} {M : Mem} {H : Hp} {d : D} {v : V} {p : PyData} (o : Own G M H) (h : Is G M H d v) (e : toPt M d = some p) : Dp G.K H v p := by
  cases d with
  | own a =>
    unfold Is at h
    cases q : M a with
    | none => simp only [toPt, q] at e; cases e
    | some m =>
      cases m with
      | lst ds =>
        simp only [toPt, q] at e
        obtain ⟨_, xs, ha, hl⟩ := o a _ q
        cases q2 : toPL ds with
        | none =>
          have e' : (toPL ds).map PyData.list = some p := e
          rw [q2] at e'; cases e'
        | some ps =>
          have e' : (toPL ds).map PyData.list = some p := e
          rw [q2] at e'
          cases e'
          rw [h.1]
          exact .lst (SqL.of ha) (toPL_ok ds xs ps hl q2)
      | _ => simp only [toPt, q] at e; cases e
  | _ => exact toP_ok _ _ _ h e
def oEqG (f : Bool → Bool) : DO := fun d e M R => match d, e with
  | .int i, .int j => R (.bl (f (decide (i = j)))) M
  | d, e => match toPt M d, toPt M e with
    | some p, some q => SeqAt.shaped p = true ∧ SeqAt.shaped q = true ∧ R (.bl (f (PyData.eqv p q))) M
    | _, _ => False
abbrev oEq : DO := oEqG id
abbrev oNe : DO := oEqG Bool.not
theorem sndO_eqD {G : Gx} {f : Bool → Bool} {d e : D} {M : Mem} {R : DR} {H : Hp} {x y : V} {Q : VK} (o : Own G M H) (i1 : Is G M H d x) (i2 : Is G M H e y)
    (h : match toPt M d, toPt M e with | some p, some q => SeqAt.shaped p = true ∧ SeqAt.shaped q = true ∧ R (.bl (f (PyData.eqv p q))) M | _, _ => False)
    (k : ∀ d M' x H', Own G M' H' → Is G M' H' d x → Ext M M' H H' → R d M' → Q x H') : ∃ p q, Dp G.K H x p ∧ Dp G.K H y q ∧ SeqAt.shaped p = true ∧ SeqAt.shaped q = true ∧ Q (.bl (f (PyData.eqv p q))) H := by
  cases e1 : toPt M d with
  | none => rw [e1] at h; exact h.elim
  | some p =>
    cases e2 : toPt M e with
    | none => rw [e1, e2] at h; exact h.elim
    | some q =>
      rw [e1, e2] at h
      exact ⟨p, q, toPt_ok o i1 e1, toPt_ok o i2 e2, h.1, h.2.1, k _ M _ H o is_bl Ext.refl h.2.2⟩
theorem beq_dec (i j : Int) : (i == j) = decide (i = j) := by
  rw [Bool.eq_iff_iff]; simp
theorem shaped_int (i : Int) : SeqAt.shaped (.int i) = true := by
  show (true && decide (PyData.depth (.int i) ≤ 64)) = true
  rw [Bool.true_and]
  exact decide_eq_true (by unfold PyData.depth; decide)
theorem sndO_eqG {G : Gx} {f : Bool → Bool} : SndO G (fun x y H Q => ∃ p q, Dp G.K H x p ∧ Dp G.K H y q ∧ SeqAt.shaped p = true ∧ SeqAt.shaped q = true ∧ Q (.bl (f (PyData.eqv p q))) H) (oEqG f) := fun d e M R H x y Q o i1 i2 h k => by
  cases d with
  | int i =>
    cases e with
    | int j =>
      unfold Is at i1 i2
      rw [i1, i2]
      refine ⟨.int i, .int j, .int i, .int j, shaped_int i, shaped_int j, k _ M _ H o is_bl Ext.refl ?_⟩
      have h' : R (.bl (f (decide (i = j)))) M := h
      show R (.bl (f (i == j))) M
      rw [beq_dec]
      exact h'
    | _ => exact sndO_eqD o i1 i2 h k
  | _ => exact sndO_eqD o i1 i2 h k
theorem sndO_eq {G : Gx} : SndO G (rEqD G.K) oEq := sndO_eqG (f := id)
theorem sndO_ne {G : Gx} : SndO G (rNeD G.K) oNe := sndO_eqG (f := Bool.not)
structure CmpQ (X : Cx) (C : Addr) (op : CmpOp) (o : DO) : Prop where
  ex : ∃ r, OpR X (compareOp op) r ∧ SndO ⟨X.K, C⟩ r o
theorem c_lt : CmpQ X C .Lt (oI0 fun i j => .bl (decide (i < j))) := ⟨_, op_lt, sndO_I0 fun _ _ _ _ => is_bl⟩
theorem c_le : CmpQ X C .LtE (oI0 fun i j => .bl (decide (i ≤ j))) := ⟨_, op_le, sndO_I0 fun _ _ _ _ => is_bl⟩
theorem c_gt : CmpQ X C .Gt (oI0 fun i j => .bl (decide (j < i))) := ⟨_, op_gt, sndO_I0 fun _ _ _ _ => is_bl⟩
theorem c_ge : CmpQ X C .GtE (oI0 fun i j => .bl (decide (j ≤ i))) := ⟨_, op_ge, sndO_I0 fun _ _ _ _ => is_bl⟩
theorem c_eq {k : Nat} (hr : Room k X.A) : CmpQ X C .Eq oEq := ⟨_, op_eqD hr.units, sndO_eq⟩
theorem c_ne {k : Nat} (hr : Room k X.A) : CmpQ X C .NotEq oNe := ⟨_, op_neD hr.units, sndO_ne⟩
theorem q_cmp {op : CmpOp} {o : DO} (ho : CmpQ X C op o) (ha : QE X C a va) (hb : QE X C b vb) (hm : behindInMarks op b = false := by first | exact nomark _ | rfl) : QE X C (.Compare a [op] [b] pos) (vOp o va vb) := by
  obtain ⟨r, pr, sr⟩ := ho.ex
  obtain ⟨ta, pa, sa⟩ := ha.ex
  obtain ⟨tb, pb, sb⟩ := hb.ex
  exact ⟨_, pe_cmpR pr pa pb hm, snd_op sa sb sr⟩
def vB (v : DE) : DT := fun γ M R => v γ M fun d M1 => match d with
  | .bl b => R b M1
  | _ => False
theorem snd_test {G : Gx} {t : TE} {v : DE} (s : Snd G t v) : SndT G (tTest t) (vB v) := fun γ M R σ H Q re h k => s γ M _ σ H _ re h fun d M1 x H1 o1 i1 e1 h1 => by
  cases d with
  | bl b => unfold Is at i1; exact ⟨b, i1, k b M1 H1 o1 e1 h1⟩
  | _ => exact False.elim h1
theorem qt_cmp {op : CmpOp} {o : DO} (ho : CmpQ X C op o) (ha : QE X C a va) (hb : QE X C b vb) (hm : behindInMarks op b = false := by first | exact nomark _ | rfl) : QT X C (.Compare a [op] [b] pos) (vB (vOp o va vb)) := by
  obtain ⟨r, pr, sr⟩ := ho.ex
  obtain ⟨ta, pa, sa⟩ := ha.ex
  obtain ⟨tb, pb, sb⟩ := hb.ex
  exact ⟨_, pt_cmpR pr pa pb hm, snd_test (snd_op sa sb sr)⟩
def vChain (o o' : DO) (a b c : DE) : DE := fun γ M R => a γ M fun x M1 => b γ M1 fun y M2 => o x y M2 fun z M3 => match z with
  | .bl k => (k = true → c γ M3 fun w M4 => o' y w M4 R) ∧ (k = false → R (.bl false) M3)
  | _ => False
theorem snd_chain {G : Gx} {ta tb tc : TE} {r r' : R2} {o o' : DO} (sa : Snd G ta va) (sb : Snd G tb vb) (sc : Snd G tc vc) (s1 : SndO G r o) (s2 : SndO G r' o') : Snd G (tChain r r' ta tb tc) (vChain o o' va vb vc) := fun γ M R σ H Q re h k =>
  sa γ M _ σ H _ re h fun d M1 x H1 o1 i1 e1 h1 => sb γ M1 _ σ H1 _ (re.mk' e1 o1) h1 fun d2 M2 y H2 o2 i2 e2 h2 =>
    s1 d d2 M2 _ H2 x y _ o2 (Is.ext e2 d x i1) i2 h2 fun d3 M3 z H3 o3 i3 e3 h3 => by
      cases d3 with
      | bl b =>
        unfold Is at i3
        refine ⟨b, i3, ?_⟩
        cases b with
        | true =>
          rw [if_pos rfl]
          refine sc γ M3 _ σ H3 _ (re.mk' ((e1.trans e2).trans e3) o3) (h3.1 rfl) fun d4 M4 w H4 o4 i4 e4 h4 => ?_
          exact s2 d2 d4 M4 R H4 y w Q o4 (Is.ext (e3.trans e4) d2 y i2) i4 h4 fun d5 M5 u H5 o5 i5 e5 h5 => k d5 M5 u H5 o5 i5 ((((e1.trans e2).trans e3).trans e4).trans e5) h5
        | false =>
          rw [if_neg Bool.false_ne_true]
          exact k _ M3 _ H3 o3 is_bl ((e1.trans e2).trans e3) (h3.2 rfl)
      | _ => exact False.elim h3
theorem qt_chain {op op' : CmpOp} {o o' : DO} (ho : CmpQ X C op o) (ho' : CmpQ X C op' o') (ha : QE X C a va) (hb : QE X C b vb) (hc : QE X C c vc) (hm : lastMarks [op, op'] [b, c] = false := by with_unfolding_all rfl) : QT X C (.Compare a [op, op'] [b, c] pos) (vB (vChain o o' va vb vc)) := by
  obtain ⟨r, pr, sr⟩ := ho.ex
  obtain ⟨r', pr', sr'⟩ := ho'.ex
  obtain ⟨ta, pa, sa⟩ := ha.ex
  obtain ⟨tb, pb, sb⟩ := hb.ex
  obtain ⟨tc, pc, sc⟩ := hc.ex
  exact ⟨_, pt_chain pr pr' pa pb pc hm, snd_test (snd_chain sa sb sc sr sr')⟩
def isNon : D → Bool
  | .non => true
  | _ => false
theorem isNon_ok {G : Gx} {M : Mem} {H : Hp} {d : D} {v : V} (h : Is G M H d v) : decide (v = .non) = isNon d := by
  cases d with
  | non => unfold Is at h; rw [h]; rfl
  | bl b => unfold Is at h; rw [h]; rfl
  | int b => unfold Is at h; rw [h]; rfl
  | str b => unfold Is at h; rw [h]; rfl
  | tup b => unfold Is at h; obtain ⟨a, _, h, _⟩ := h; rw [h]; rfl
  | lst b => unfold Is at h; obtain ⟨a, _, h, _⟩ := h; rw [h]; rfl
  | scr b => unfold Is at h; obtain ⟨a, h, _⟩ := h; rw [h]; rfl
  | ln _ _ _ => unfold Is at h; obtain ⟨a, _, _, h, _⟩ := h; rw [h]; rfl
  | own a => unfold Is at h; rw [h.1]; rfl
  | exn _ _ => unfold Is at h; obtain ⟨a, _, _, h, _⟩ := h; rw [h]; rfl
  | exn0 _ => unfold Is at h; obtain ⟨a, h, _⟩ := h; rw [h]; rfl
  | dct _ _ => unfold Is at h; obtain ⟨a, _, h, _⟩ := h; rw [h]; rfl
  | cls => unfold Is at h; rw [h]; rfl
def vIsN (f : Bool → Bool) (a : DE) : DE := fun γ M R => a γ M fun d M1 => R (.bl (f (isNon d))) M1
theorem snd_isN {G : Gx} {ta : TE} (sa : Snd G ta va) : Snd G (tIsN ta) (vIsN id va) := fun γ M R σ H Q re h k => sa γ M _ σ H _ re h fun d M1 x H1 o1 i1 e1 h1 => k _ M1 _ H1 o1 (by unfold Is; rw [isNon_ok i1]; rfl) e1 h1
theorem snd_notN {G : Gx} {ta : TE} (sa : Snd G ta va) : Snd G (tNotN ta) (vIsN Bool.not va) := fun γ M R σ H Q re h k => sa γ M _ σ H _ re h fun d M1 x H1 o1 i1 e1 h1 => k _ M1 _ H1 o1 (by unfold Is; rw [isNon_ok i1]) e1 h1
theorem snd_tB {G : Gx} {t : TE} {v : DE} (s : Snd G t v) : SndT G (tB t) (vB v) := fun γ M R σ H Q re h k => s γ M _ σ H _ re h fun d M1 x H1 o1 i1 e1 h1 => by
  cases d with
  | bl b => unfold Is at i1; exact ⟨b, i1, k b M1 H1 o1 e1 h1⟩
  | _ => exact False.elim h1
theorem qt_isN {j p} (ha : QE X C a va) : QT X C (.Compare a [.Is] [.Constant .none j p] pos) (vB (vIsN id va)) := by
  obtain ⟨ta, pa, sa⟩ := ha.ex
  exact ⟨_, pt_cmp (pc_isN pa), snd_tB (snd_isN sa)⟩
theorem qt_notN {j p} (ha : QE X C a va) : QT X C (.Compare a [.IsNot] [.Constant .none j p] pos) (vB (vIsN Bool.not va)) := by
  obtain ⟨ta, pa, sa⟩ := ha.ex
  exact ⟨_, pt_cmp (pc_notN pa), snd_tB (snd_notN sa)⟩
theorem qt_val (h : QE X C a va) (he : ∀ whole, isTrue a X.env whole = (do let v ← whole; standAt a.pos; holding [v] (truthy v)) := by intro _; rfl) : QT X C a (vB va) := by
  obtain ⟨ta, pa, sa⟩ := h.ex
  exact ⟨_, pt_val pa he, snd_tB sa⟩
structure QW (X : Cx) (C : Addr) (e : Expr) (v : DT) : Prop where
  ex : ∃ t, PW X e t ∧ SndT ⟨X.K, C⟩ t v
theorem QW.qt {e : Expr} {v : DT} (h : QW X C e v) : QT X C e v := let ⟨t, p, s⟩ := h.ex; ⟨t, p.pt, s⟩
def vAnd (a b : DT) : DT := fun γ M R => a γ M fun k M1 => (k = true → b γ M1 R) ∧ (k = false → R false M1)
def vOr (a b : DT) : DT := fun γ M R => a γ M fun k M1 => (k = true → R true M1) ∧ (k = false → b γ M1 R)
def vNot (a : DT) : DT := fun γ M R => a γ M fun k M1 => R (!k) M1
variable {ua ub : DT} {rest : List Expr}
theorem qw_and1 (ha : QT X C a ua) : QW X C (.BoolOp .And [a] pos) ua := let ⟨t, p, s⟩ := ha.ex; ⟨t, pw_and1 p, s⟩
theorem qw_or1 (ha : QT X C a ua) : QW X C (.BoolOp .Or [a] pos) ua := let ⟨t, p, s⟩ := ha.ex; ⟨t, pw_or1 p, s⟩
theorem snd_and {G : Gx} {ta tb : TT} (sa : SndT G ta ua) (sb : SndT G tb ub) : SndT G (tAnd ta tb) (vAnd ua ub) := fun γ M R σ H Q re h k => sa γ M _ σ H _ re h fun b M1 H1 o1 e1 h1 => by
  cases b with
  | true => rw [if_pos rfl]; exact sb γ M1 R σ H1 Q (re.mk' e1 o1) (h1.1 rfl) fun b2 M2 H2 o2 e2 h2 => k b2 M2 H2 o2 (e1.trans e2) h2
  | false => rw [if_neg Bool.false_ne_true]; exact k _ M1 H1 o1 e1 (h1.2 rfl)
theorem snd_or {G : Gx} {ta tb : TT} (sa : SndT G ta ua) (sb : SndT G tb ub) : SndT G (tOr ta tb) (vOr ua ub) := fun γ M R σ H Q re h k => sa γ M _ σ H _ re h fun b M1 H1 o1 e1 h1 => by
  cases b with
  | true => rw [if_pos rfl]; exact k _ M1 H1 o1 e1 (h1.1 rfl)
  | false => rw [if_neg Bool.false_ne_true]; exact sb γ M1 R σ H1 Q (re.mk' e1 o1) (h1.2 rfl) fun b2 M2 H2 o2 e2 h2 => k b2 M2 H2 o2 (e1.trans e2) h2
theorem qw_and (ha : QT X C a ua) (hb : QW X C (.BoolOp .And (b :: rest) pos) ub) : QW X C (.BoolOp .And (a :: b :: rest) pos) (vAnd ua ub) :=
  let ⟨_, p, s⟩ := ha.ex; let ⟨_, q, u⟩ := hb.ex; ⟨_, pw_and p q, snd_and s u⟩
theorem qw_or (ha : QT X C a ua) (hb : QW X C (.BoolOp .Or (b :: rest) pos) ub) : QW X C (.BoolOp .Or (a :: b :: rest) pos) (vOr ua ub) :=
  let ⟨_, p, s⟩ := ha.ex; let ⟨_, q, u⟩ := hb.ex; ⟨_, pw_or p q, snd_or s u⟩
theorem qt_not (ha : QT X C a ua) : QT X C (.UnaryOp .Not a pos) (vNot ua) := by
  obtain ⟨t, p, s⟩ := ha.ex
  exact ⟨_, pt_not p, fun γ M R σ H Q re h k => s γ M _ σ H _ re h fun b M1 H1 o1 e1 h1 => k _ M1 H1 o1 e1 h1⟩
def vAndV (a b : DE) : DE := fun γ M R => a γ M fun d M1 => match d with
  | .bl k => (k = true → b γ M1 R) ∧ (k = false → R (.bl false) M1)
  | _ => False
def vNotV (a : DE) : DE := fun γ M R => a γ M fun d M1 => match d with
  | .bl k => R (.bl (!k)) M1
  | _ => False
theorem q_one {op} (h : QE X C a va) : QE X C (.BoolOp op [a] pos) va := let ⟨_, p, s⟩ := h.ex; ⟨_, pe_one p, s⟩
theorem q_and (ha : QE X C a va) (hb : QE X C (.BoolOp .And (b :: rest) pos) vb) : QE X C (.BoolOp .And (a :: b :: rest) pos) (vAndV va vb) := by
  obtain ⟨ta, pa, sa⟩ := ha.ex
  obtain ⟨tb, pb, sb⟩ := hb.ex
  refine ⟨_, pe_and pa pb, fun γ M R σ H Q re h k => sa γ M _ σ H _ re h fun d M1 x H1 o1 i1 e1 h1 => ?_⟩
  cases d with
  | bl c =>
    unfold Is at i1
    refine ⟨c, i1, ?_⟩
    cases c with
    | true => rw [if_pos rfl]; exact sb γ M1 R σ H1 Q (re.mk' e1 o1) (h1.1 rfl) fun d2 M2 x2 H2 o2 i2 e2 h2 => k d2 M2 x2 H2 o2 i2 (e1.trans e2) h2
    | false => rw [if_neg Bool.false_ne_true]; exact k _ M1 _ H1 o1 is_bl e1 (h1.2 rfl)
  | _ => exact False.elim h1
theorem q_not (ha : QE X C a va) : QE X C (.UnaryOp .Not a pos) (vNotV va) := by
  obtain ⟨ta, pa, sa⟩ := ha.ex
  refine ⟨_, pe_not pa, fun γ M R σ H Q re h k => sa γ M _ σ H _ re h fun d M1 x H1 o1 i1 e1 h1 => ?_⟩
  cases d with
  | bl c => unfold Is at i1; exact ⟨c, i1, k _ M1 _ H1 o1 is_bl e1 h1⟩
  | _ => exact False.elim h1
def vIte (t : DT) (a b : DE) : DE := fun γ M R => t γ M fun k M1 => (k = true → a γ M1 R) ∧ (k = false → b γ M1 R)
theorem q_ite {e : Expr} (hc : QT X C e ua) (ha : QE X C a va) (hb : QE X C b vb) : QE X C (.IfExp e a b pos) (vIte ua va vb) := by
  obtain ⟨tc, pc, sc⟩ := hc.ex
  obtain ⟨ta, pa, sa⟩ := ha.ex
  obtain ⟨tb, pb, sb⟩ := hb.ex
  refine ⟨_, pe_ifExp pc pa pb, fun γ M R σ H Q re h k => sc γ M _ σ H _ re h fun c M1 H1 o1 e1 h1 => ?_⟩
  cases c with
  | true => rw [if_pos rfl]; exact sa γ M1 R σ H1 Q (re.mk' e1 o1) (h1.1 rfl) fun d2 M2 x2 H2 o2 i2 e2 h2 => k d2 M2 x2 H2 o2 i2 (e1.trans e2) h2
  | false => rw [if_neg Bool.false_ne_true]; exact sb γ M1 R σ H1 Q (re.mk' e1 o1) (h1.2 rfl) fun d2 M2 x2 H2 o2 i2 e2 h2 => k d2 M2 x2 H2 o2 i2 (e1.trans e2) h2
end
end Dl
namespace Dl
open PySem L2
abbrev DC := List D → Mem → DR → Prop
def SndC (G : Gx) (r : List V → Hp → VK → Prop) (o : DC) : Prop := ∀ (ds : List D) (M : Mem) (R : DR) (H : Hp) (xs : List V) (Q : VK), Own G M H → IsL G M H ds xs → o ds M R →
  (∀ d M' x H', Own G M' H' → Is G M' H' d x → Ext M M' H H' → R d M' → Q x H') → r xs H Q
def vCB (o : DC) (a : DA) : DE := fun γ M R => a γ M fun ds M1 => o ds M1 R
section
variable {X : Cx} {C : Addr} {x : Str} {p pos : Pos} {e : Expr} {es : List Expr} {va : DA} {id T : String}
theorem isL1 {G : Gx} {M : Mem} {H : Hp} {d : D} {xs : List V} (h : IsL G M H [d] xs) : ∃ v, xs = [v] ∧ Is G M H d v := by
  match xs, h with
  | [v], h => unfold IsL at h; exact ⟨v, rfl, h.1⟩
  | [], h => unfold IsL at h; exact h.elim
  | _ :: _ :: _, h => unfold IsL at h; have h2 := h.2; unfold IsL at h2; exact h2.elim
theorem isL2 {G : Gx} {M : Mem} {H : Hp} {d f : D} {xs : List V} (h : IsL G M H [d, f] xs) : ∃ v u, xs = [v, u] ∧ Is G M H d v ∧ Is G M H f u := by
  match xs, h with
  | v :: r, h =>
    unfold IsL at h
    obtain ⟨u, e, i⟩ := isL1 h.2
    exact ⟨v, u, by rw [e], h.1, i⟩
  | [], h => unfold IsL at h; exact h.elim
structure BQ (X : Cx) (C : Addr) (f : Value) (o : DC) : Prop where
  ex : ∃ r, CallR X f r ∧ SndC ⟨X.K, C⟩ r o
theorem snd_cb {G : Gx} {r : List V → Hp → VK → Prop} {o : DC} {ta : TA} (sa : SndA G ta va) (so : SndC G r o) : Snd G (tCB r ta) (vCB o va) := fun γ M R σ H Q re h k =>
  sa γ M _ σ H _ re h fun ds M1 xs H1 o1 i1 e1 h1 => so ds M1 R H1 xs Q o1 i1 h1 fun d M2 y H2 o2 i2 e2 h2 => k d M2 y H2 o2 i2 (e1.trans e2) h2
theorem q_cb {o : DC} (hc : BQ X C (.builtin id) o) (hg : Gl X x) (hm : X.mg x = none) (hv : bootBuiltins x = some (.builtin id)) (ha : QA X C (e :: es) va) (hn : x ≠ "__name__" := by decide) (hdb : (x == ("__debug__" : Str)) = false := by decide)
    (he : starEach (e :: es) X.env = (false, eval e X.env) :: starEach es X.env := by rfl) (hpl : (backTo pos (starEach es X.env)).any (·.1) = false := by rfl) : QE X C (.Call (.Name x p) (e :: es) [] pos) (vCB o va) := by
  obtain ⟨r, pr, sr⟩ := hc.ex
  obtain ⟨ta, pa, sa⟩ := ha.ex
  exact ⟨_, pe_callB pr hg hm hv pa hn hdb he hpl, snd_cb sa sr⟩
theorem q_ct {o : DC} (hc : BQ X C (.type T) o) (hg : Gl X x) (hm : X.mg x = none) (hv : bootBuiltins x = some (.type T)) (ha : QA X C (e :: es) va) (hn : x ≠ "__name__" := by decide) (hdb : (x == ("__debug__" : Str)) = false := by decide)
    (he : starEach (e :: es) X.env = (false, eval e X.env) :: starEach es X.env := by rfl) (hpl : (backTo pos (starEach es X.env)).any (·.1) = false := by rfl) : QE X C (.Call (.Name x p) (e :: es) [] pos) (vCB o va) := by
  obtain ⟨r, pr, sr⟩ := hc.ex
  obtain ⟨ta, pa, sa⟩ := ha.ex
  exact ⟨_, pe_callTy pr hg hm hv pa hn hdb he hpl, snd_cb sa sr⟩
def oC1 (g : Int → D) : DC := fun ds M R => match ds with
  | [.int i] => R (g i) M
  | _ => False
def oC2 (g : Int → Int → D) : DC := fun ds M R => match ds with
  | [.int i, .int j] => R (g i j) M
  | _ => False
theorem sndC1 {G : Gx} {g : Int → D} {gv : Int → V} (hg : ∀ i (M : Mem) (H : Hp), Is G M H (g i) (gv i)) : SndC G (fun xs H Q => ∃ i, xs = [.int i] ∧ Q (gv i) H) (oC1 g) := fun ds M R H xs Q o i1 h k => by
  match ds, h with
  | [.int i], h =>
    obtain ⟨v, e, q⟩ := isL1 i1
    unfold Is at q
    exact ⟨i, by rw [e, q], k _ M _ H o (hg i M H) Ext.refl h⟩
theorem sndC2 {G : Gx} {g : Int → Int → D} {gv : Int → Int → V} (hg : ∀ i j (M : Mem) (H : Hp), Is G M H (g i j) (gv i j)) : SndC G (fun xs H Q => ∃ i j, xs = [.int i, .int j] ∧ Q (gv i j) H) (oC2 g) := fun ds M R H xs Q o i1 h k => by
  match ds, h with
  | [.int i, .int j], h =>
    obtain ⟨v, u, e, q, q2⟩ := isL2 i1
    unfold Is at q q2
    exact ⟨i, j, by rw [e, q, q2], k _ M _ H o (hg i j M H) Ext.refl h⟩
theorem b_abs : BQ X C (.builtin "abs") (oC1 fun i => .int (if i < 0 then -i else i)) := ⟨_, call_abs, sndC1 fun _ _ _ => is_int⟩
theorem b_max2 (hc : X.calm = true := by rfl) : BQ X C (.builtin "max") (oC2 fun i j => .int (if j > i then j else i)) := ⟨_, call_max2 hc, sndC2 fun _ _ _ _ => is_int⟩
theorem b_min2 (hc : X.calm = true := by rfl) : BQ X C (.builtin "min") (oC2 fun i j => .int (if j < i then j else i)) := ⟨_, call_min2 hc, sndC2 fun _ _ _ _ => is_int⟩
def oInt : DC := fun ds M R => match ds with
  | [.int i] => R (.int i) M
  | [.bl k] => R (.int (if k then 1 else 0)) M
  | _ => False
theorem b_int : BQ X C (.type "int") oInt := ⟨_, call_int1, fun ds M R H xs Q o i1 h k => by
  match ds, h with
  | [.int i], h =>
    obtain ⟨v, e, q⟩ := isL1 i1
    unfold Is at q
    exact .inl ⟨i, by rw [e, q], k _ M _ H o is_int Ext.refl h⟩
  | [.bl i], h =>
    obtain ⟨v, e, q⟩ := isL1 i1
    unfold Is at q
    exact .inr ⟨i, by rw [e, q], k _ M _ H o is_int Ext.refl h⟩⟩
def oLen : DC := fun ds M R => match ds with
  | [.str y] => y.length ≤ sizeLine ∧ R (.int y.length) M
  | [d] => (match seqI M d with
    | some xs => R (.int xs.length) M
    | none => False)
  | _ => False
theorem len_seq {G : Gx} {M : Mem} {H : Hp} {d : D} {v : V} {ds : List D} (o : Own G M H) (h : Is G M H d v) (e : seqI M d = some ds) : LenV G.K v H ds.length := by
  obtain ⟨a, xs, e1, l, s⟩ := seq_at o h e
  rw [e1]
  rcases s with ⟨_, s⟩ | ⟨_, s⟩
  · exact .inl ⟨xs, s, l.len⟩
  · exact .inr ⟨xs, s, l.len⟩
theorem b_len : BQ X C (.builtin "len") oLen := ⟨_, call_len, fun ds M R H xs Q o i1 h k => by
  match ds, h with
  | d1 :: _ :: _, h => cases d1 <;> exact h.elim
  | [d], h =>
    obtain ⟨v, e, q⟩ := isL1 i1
    cases d with
    | str y =>
      unfold Is at q
      exact ⟨v, y.length, e, by rw [q]; exact ⟨h.1, rfl⟩, k _ M _ H o is_int Ext.refl h.2⟩
    | _ =>
      unfold oLen at h
      simp only at h
      split at h
      · rename_i ys e2
        exact ⟨v, ys.length, e, len_seq o q e2, k _ M _ H o is_int Ext.refl h⟩
      · exact h.elim⟩
def intsD : List D → Option (List Int)
  | [] => some []
  | .int i :: r => (intsD r).map (i :: ·)
  | _ => none
theorem intsD_map (ns : List Int) : intsD (ns.map D.int) = some ns := by
  induction ns with
  | nil => rfl
  | cons n r ih => show (intsD (r.map D.int)).map (n :: ·) = _; rw [ih]; rfl
theorem intsD_eq : ∀ {ds : List D} {ns : List Int}, intsD ds = some ns → ds = ns.map D.int
  | [], ns, h => by cases h; rfl
  | .int i :: r, ns, h => by
    have h' : (intsD r).map (i :: ·) = some ns := h
    cases e : intsD r with
    | none => rw [e] at h'; cases h'
    | some ms => rw [e] at h'; cases h'; rw [intsD_eq e]; rfl
theorem isL_intsV {G : Gx} {M : Mem} {H : Hp} : ∀ {ns : List Int} {xs : List V}, IsL G M H (ns.map D.int) xs → xs = ns.map V.int
  | [], [], _ => rfl
  | [], _ :: _, h => by unfold List.map IsL at h; exact h.elim
  | _ :: _, [], h => by rw [List.map_cons] at h; unfold IsL at h; exact h.elim
  | n :: ns, v :: vs, h => by
    rw [List.map_cons] at h
    unfold IsL at h
    have h1 := h.1
    unfold Is at h1
    rw [h1, isL_intsV h.2]; rfl
def intsOf (M : Mem) (d : D) : Option (List Int) := match isTup d, seqI M d with
  | false, some ds => intsD ds
  | _, _ => none
theorem ints_at {G : Gx} {M : Mem} {H : Hp} {d : D} {v : V} {ns : List Int} (o : Own G M H) (h : Is G M H d v) (e : intsOf M d = some ns) : ∃ a, v = .ref a ∧ SqL G.K H a (ns.map V.int) := by
  unfold intsOf at e
  cases q : isTup d with
  | true => rw [q] at e; cases e
  | false =>
    cases q2 : seqI M d with
    | none => rw [q, q2] at e; cases e
    | some ds =>
      rw [q, q2] at e
      have e' : intsD ds = some ns := e
      obtain ⟨a, xs, e1, l, s⟩ := seq_at o h q2
      rw [intsD_eq e'] at l
      rw [← isL_intsV l]
      rcases s with ⟨_, s⟩ | ⟨z, _⟩
      · exact ⟨a, e1, s⟩
      · rw [q] at z; cases z
def oSum : DC := fun ds M R => match ds with
  | [d] => (match intsOf M d with
    | some ns => R (.int ns.sum) M
    | none => False)
  | _ => False
theorem b_sum (hc : X.calm = true := by rfl) : BQ X C (.builtin "sum") oSum := ⟨_, cr_sum hc, fun ds M R H xs Q o i1 h k => by
  match ds, h with
  | [d], h =>
    obtain ⟨v, e, q⟩ := isL1 i1
    unfold oSum at h
    simp only at h
    split at h
    · rename_i ns e2
      obtain ⟨a, e3, s⟩ := ints_at o q e2
      exact ⟨a, ns, by rw [e, e3], s, k _ M _ H o is_int Ext.refl h⟩
    · exact h.elim⟩
inductive Ty where | non | bl | int | str | tup | lst | dct
def Ty.nm : Ty → String
  | .non => "NoneType" | .bl => "bool" | .int => "int" | .str => "str" | .tup => "tuple" | .lst => "list" | .dct => "dict"
def Ty.sub : Ty → Ty → Bool
  | .non, .non => true | .bl, .bl => true | .bl, .int => true | .int, .int => true | .str, .str => true | .tup, .tup => true | .lst, .lst => true | .dct, .dct => true
  | _, _ => false
theorem kit_sub (a b : Ty) : kitB a.nm b.nm = some (a.sub b) := by cases a <;> cases b <;> decide +kernel
def tyD : D → Option Ty
  | .non => some .non | .bl _ => some .bl | .int _ => some .int | .str _ => some .str | .tup _ => some .tup | .lst _ => some .lst | .dct _ _ => some .dct
  | _ => none
def tyM (M : Mem) : D → Option Ty
  | .own a => match M a with
    | some (.lst _) => some .lst
    | some (.dct _ _) => some .dct
    | _ => none
  | d => tyD d
theorem tyD_ok {G : Gx} {M : Mem} {H : Hp} {d : D} {v : V} {t : Ty} (o : Own G M H) (h : Is G M H d v) (e : tyD d = some t) : TyX G.K H v (.type t.nm) := by
  cases d with
  | non => cases e; unfold Is at h; rw [h]; exact .base .non
  | bl b => cases e; unfold Is at h; rw [h]; exact .base (.bl b)
  | int b => cases e; unfold Is at h; rw [h]; exact .base (.int b)
  | str b => cases e; unfold Is at h; rw [h]; exact .base (.str b)
  | tup b => cases e; unfold Is at h; obtain ⟨a, xs, e1, _, ha, _⟩ := h; rw [e1]; exact .base (.tup ha)
  | lst b => cases e; unfold Is at h; obtain ⟨a, xs, e1, _, ha, _⟩ := h; rw [e1]; exact .base (.lst ha)
  | dct ks ds => cases e; unfold Is at h; obtain ⟨a, xs, e1, _, ha, _⟩ := h; rw [e1]; exact .base (.dK ha)
  | _ => cases e
theorem tyM_ok {G : Gx} {M : Mem} {H : Hp} {d : D} {v : V} {t : Ty} (o : Own G M H) (h : Is G M H d v) (e : tyM M d = some t) : TyX G.K H v (.type t.nm) := by
  cases d with
  | own a =>
    unfold Is at h
    rw [h.1]
    unfold tyM at e
    simp only at e
    split at e
    · rename_i ds q
      cases e
      obtain ⟨_, xs, ha, _⟩ := o a _ q
      exact .base (.lst ha)
    · rename_i ks ds q
      cases e
      obtain ⟨_, _, xs, ha, _⟩ := o a _ q
      exact .base (.dK ha)
    · cases e
  | _ => exact tyD_ok o h e
def vIsi (T : Ty) (a : DE) : DE := fun γ M R => a γ M fun d M1 => match tyM M1 d with
  | some t => R (.bl (t.sub T)) M1
  | none => False
theorem q_isi (T : Ty) {y : Str} {v : DE} {p2 : Pos} (ha : QE X C e v) (hg : Gl X x) (hm : X.mg x = none) (hv : bootBuiltins x = some (.builtin "isinstance")) (hg2 : Gl X y) (hm2 : X.mg y = none) (hv2 : bootBuiltins y = some (.type T.nm)) (hn : x ≠ "__name__" := by decide) (hdb : (x == ("__debug__" : Str)) = false := by decide)
    (hn2 : y ≠ "__name__" := by decide) (hdb2 : (y == ("__debug__" : Str)) = false := by decide)
    (he : starEach (e :: [.Name y p2]) X.env = (false, eval e X.env) :: starEach [.Name y p2] X.env := by rfl) (he2 : starEach [.Name y p2] X.env = (false, eval (.Name y p2) X.env) :: starEach [] X.env := by rfl) (hpl : (backTo pos (starEach [.Name y p2] X.env)).any (·.1) = false := by rfl) : QE X C (.Call (.Name x p) [e, .Name y p2] [] pos) (vIsi T v) := by
  obtain ⟨ta, pa, sa⟩ := ha.ex
  refine ⟨_, pe_callB call_isi hg hm hv (pa_cons pa (pa_cons (pe_bltn (v := .ty T.nm) hg2 hm2 hv2 rfl hn2 hdb2) pa_nil he2) he) hn hdb he hpl, fun γ M R σ H Q re h k => sa γ M _ σ H _ re h fun d M1 x1 H1 o1 i1 e1 h1 => ?_⟩
  cases q : tyM M1 d with
  | none => rw [q] at h1; exact h1.elim
  | some t =>
    rw [q] at h1
    exact ⟨x1, .ty T.nm, _, _, t.sub T, rfl, .ty _, tyM_ok o1 i1 q, kit_ty (kit_sub t T), k _ M1 _ H1 o1 is_bl e1 h1⟩
def vBits (a : DE) : DE := fun γ M R => a γ M fun d M1 => match d with
  | .int i => R (.int (Builtin.Int.intBits i : Nat)) M1
  | _ => False
theorem q_bits {v : DE} {apos : Pos} (ha : QE X C e v) (hbase : attributeBase e "bit_length" X.env (eval e X.env) = eval e X.env := by rfl) (hline : (apos.endLine == pos.line) = true := by rfl) : QE X C (.Call (.Attribute e "bit_length" apos) [] [] pos) (vBits v) := by
  obtain ⟨ta, pa, sa⟩ := ha.ex
  refine ⟨_, pe_bits pa hbase hline, fun γ M R σ H Q re h k => sa γ M _ σ H _ re h fun d M1 x H1 o1 i1 e1 h1 => ?_⟩
  cases d with
  | int i => unfold Is at i1; exact ⟨i, i1, k _ M1 _ H1 o1 is_int e1 h1⟩
  | _ => exact False.elim h1
end
section
variable {X : Cx} {C : Addr} {x : Str} {p pos : Pos} {e : Expr} {es : List Expr} {va : DA} {id T : String}
def oList : DC := fun ds M R => match ds with
  | [d] => (match seqI M d with
    | some xs => R (.lst xs) M
    | none => False)
  | _ => False
def oListO : DC := fun ds M R => match ds with
  | [d] => (match seqI M d with
    | some xs => pureL xs = true ∧ ∀ p, M p = none → R (.own p) (mset M p (.lst xs))
    | none => False)
  | _ => False
theorem b_list : BQ X C (.type "list") oList := ⟨_, call_list_of, fun ds M R H xs Q o i1 h k => by
  match ds, h with
  | [d], h =>
    obtain ⟨v, e, q⟩ := isL1 i1
    unfold oList at h
    simp only at h
    split at h
    · rename_i ys e2
      obtain ⟨a, us, e3, l, s⟩ := seq_at o q e2
      refine ⟨a, us, by rw [e, e3], ?_, fun n hn => k _ M _ _ (o.new hn) (new_lst o hn l) (Ext.new hn) h⟩
      rcases s with ⟨_, s⟩ | ⟨_, s⟩
      · exact .inl s
      · exact .inr s
    · exact h.elim⟩
theorem b_listO : BQ X C (.type "list") oListO := ⟨_, call_list_of, fun ds M R H xs Q o i1 h k => by
  match ds, h with
  | [d], h =>
    obtain ⟨v, e, q⟩ := isL1 i1
    unfold oListO at h
    simp only at h
    split at h
    · rename_i ys e2
      obtain ⟨a, us, e3, l, s⟩ := seq_at o q e2
      refine ⟨a, us, by rw [e, e3], ?_, fun n hn => k _ (mset M n (.lst ys)) _ _ (o.newOwn hn h.1 l) is_own (Ext.newOwn hn) (h.2 n (o.fresh hn))⟩
      rcases s with ⟨_, s⟩ | ⟨_, s⟩
      · exact .inl s
      · exact .inr s
    · exact h.elim⟩
end
structure XD where
  cls : Str
  fld : D
abbrev DX := XD → Mem → Prop
abbrev DSp := List D → Mem → DR → DX → Prop
def noX : DX := fun _ _ => False
def spD (G : Gx) (n : Nat) (S : DSp) : Sp := fun vs H Q _ => ∃ (ds : List D) (M : Mem) (R : DR), ds.length = n ∧ IsL G M H ds vs ∧ Own G M H ∧ S ds M R noX ∧
  ∀ d M' x H', Own G M' H' → Is G M' H' d x → Ext M M' H H' → R d M' → Q x H'
def vCall (n : Nat) (S : DSp) (dd : List D) (a : DA) : DE := fun γ M R => a γ M fun ds M1 => (ds ++ dd).length = n ∧ S (ds ++ dd) M1 R noX
def constV : D → Option V
  | .non => some .non
  | .bl b => some (.bl b)
  | .int i => some (.int i)
  | .str x => some (.str x)
  | _ => none
def constL : List D → Option (List V)
  | [] => some []
  | d :: r => match constV d, constL r with
    | some v, some vs => some (v :: vs)
    | _, _ => none
theorem constV_ok {G : Gx} {M : Mem} {H : Hp} {d : D} {v : V} (h : constV d = some v) : Is G M H d v := by
  cases d with
  | non => cases h; exact is_non
  | bl b => cases h; exact is_bl
  | int b => cases h; exact is_int
  | str b => cases h; exact is_str
  | _ => cases h
theorem constL_ok {G : Gx} {M : Mem} {H : Hp} : ∀ {ds : List D} {vs : List V}, constL ds = some vs → IsL G M H ds vs
  | [], _, h => by cases h; exact IsL.nil
  | d :: r, vs, h => by
    unfold constL at h
    cases e : constV d with
    | none => rw [e] at h; cases h
    | some v =>
      cases e2 : constL r with
      | none => rw [e, e2] at h; cases h
      | some us => rw [e, e2] at h; cases h; exact IsL.cons (constV_ok e) (constL_ok e2)
theorem snd_call {G : Gx} {n : Nat} {S : DSp} {dd : List D} {dv : List V} {va : DA} {ta : TA} (hd : constL dd = some dv) (sa : SndA G ta va) : Snd G (tCall (spD G n S) dv E0 ta) (vCall n S dd va) := fun γ M R σ H Q re h k =>
  sa γ M _ σ H _ re h fun ds M1 xs H1 o1 i1 e1 h1 => ⟨ds ++ dd, M1, R, h1.1, i1.append (constL_ok hd), o1, h1.2, fun d M2 y H2 o2 i2 e2 h2 => k d M2 y H2 o2 i2 (e1.trans e2) h2⟩
section
variable {X : Cx} {C : Addr} {k n : Nat} {f : Addr} {fd : FuncData} {ps : List Str} {S : DSp} {dd : List D} {dv : List V} {ds : List Value} {x : Str} {p pos : Pos} {e : Expr} {es : List Expr} {va : DA}
theorem q_call (F : FnOk X.prog X.w X.K X.mg X.base CX0 k f fd ps (spD ⟨X.K, C⟩ n S)) (hr : Room k X.A) (hm : X.mg x = some (.ref f)) (hk : PySem.W.keepIn X.K (.ref f) = true) (hb : Binds X.K fd ps ds) (hd : Vals dv ds) (hdd : constL dd = some dv)
    (ha : QA X C (e :: es) va) (hg : Gl X x := by rfl) (hdb : (x == ("__debug__" : Str)) = false := by decide) (he : starEach (e :: es) X.env = (false, eval e X.env) :: starEach es X.env := by rfl) (hpl : (backTo pos (starEach es X.env)).any (·.1) = false := by rfl) :
    QE X C (.Call (.Name x p) (e :: es) [] pos) (vCall n S dd va) := by
  obtain ⟨ta, pa, sa⟩ := ha.ex
  exact ⟨_, pe_call F hr hg hm hk hb hd pass0 pa hdb he hpl, snd_call hdd sa⟩
structure QK (X : Cx) (C : Addr) (kws : List Keyword) (v : DA) : Prop where
  ex : ∃ t, PK X kws t ∧ SndA ⟨X.K, C⟩ t v
end
end Dl
namespace Dl
open PySem L2
def lift (G : Gx) (v : DE) : TE := fun σ H Q => ∃ (γ : Gm) (M : Mem) (R : DR), Rel G M γ σ H ∧ v γ M R ∧ ∀ d M' x H', Own G M' H' → Is G M' H' d x → Ext M M' H H' → R d M' → Q x H'
def liftT (G : Gx) (v : DT) : TT := fun σ H Q => ∃ (γ : Gm) (M : Mem) (R : Bool → Mem → Prop), Rel G M γ σ H ∧ v γ M R ∧ ∀ b M' H', Own G M' H' → Ext M M' H H' → R b M' → Q b H'
theorem QE.lift {X : Cx} {C : Addr} {e : Expr} {v : DE} (h : QE X C e v) : PE X e (Dl.lift ⟨X.K, C⟩ v) := by
  obtain ⟨t, p, s⟩ := h.ex
  exact ⟨fun pins s0 σ H Q I ⟨γ, M, R, re, hv, k⟩ => p.run pins s0 σ H Q I (s γ M R σ H Q re hv k)⟩
theorem QT.lift {X : Cx} {C : Addr} {e : Expr} {v : DT} (h : QT X C e v) : PT X e (liftT ⟨X.K, C⟩ v) := by
  obtain ⟨t, p, s⟩ := h.ex
  exact ⟨fun pins s0 σ H Q I ⟨γ, M, R, re, hv, k⟩ => p.run pins s0 σ H Q I (s γ M R σ H Q re hv k)⟩
def noFld (c : Str) : Bool := c == "NotRising" || c == "NothingToUndo"
def XIs (G : Gx) (M : Mem) (H : Hp) (x : XD) (cls : Value) (d : Option Addr) : Prop :=
  cls = .ref (He.ga G.K x.cls) ∧ PySem.W.exmOne G.K cls (.ref (He.ga G.K "FourTestsError")) = some true ∧
    ((noFld x.cls = true ∧ d = none) ∨ (noFld x.cls = false ∧ ∃ dd u, d = some dd ∧ M dd = none ∧ H dd = some (.xd [(fldN x.cls, u)]) ∧ Is G M H x.fld u))
def wX (X : Cx) : WX := fun cls d σ H => ∀ (u : Value) (s' : Shared) (a : Addr) (B : Heap) (sI : Shared) (pins : List (Addr × Obj)), u = .ref a → Inv X pins σ H sI → (∀ b o, sI.heap.get? b = some o → b ∉ frs X.stack → B.get? b = some o) → sI.heap.UpToSlots s'.heap →
  Sky B X.stack a (Zc cls d) X.env.locals s'.heap → H a = none → s'.os = sI.os → PyProof.Rows.AllBare s'.gens → X.xe u s'
theorem takes_wX {X : Cx} : Takes X (wX X) := fun u s' ⟨a, B, sI, pins, σ, H, cls, d, e, I, nb, up, sky, na, os, ag, w⟩ => w u s' a B sI pins e I nb up sky na os ag
theorem wX_of {X : Cx} {W : WX} (tk : Takes X W) {cls : Value} {d : Option Addr} {σ : St} {H : Hp} (h : W cls d σ H) : wX X cls d σ H := fun u s' a B sI pins e I nb up sky na os ag => tk u s' ⟨a, B, sI, pins, σ, H, cls, d, e, I, nb, up, sky, na, os, ag, h⟩
structure DEnds where
  nx : Gm → Mem → Prop
  rt : DR
  bk : Gm → Mem → Prop := fun _ _ => False
  ct : Gm → Mem → Prop := fun _ _ => False
  xx : Gm → XD → Mem → Prop := fun _ _ _ => False
abbrev DS := DEnds → Gm → Mem → Prop
structure Lk (X : Cx) (C : Addr) (M : Mem) (H : Hp) (Ed : DEnds) (E : Ends) : Prop where
  nx : ∀ γ M' σ H', Rel ⟨X.K, C⟩ M' γ σ H' → Ext M M' H H' → Ed.nx γ M' → E.nx σ H'
  rt : ∀ d M' x H', Own ⟨X.K, C⟩ M' H' → Is ⟨X.K, C⟩ M' H' d x → Ext M M' H H' → Ed.rt d M' → E.rt x H'
  bk : ∀ γ M' σ H', Rel ⟨X.K, C⟩ M' γ σ H' → Ext M M' H H' → Ed.bk γ M' → E.bk σ H'
  ct : ∀ γ M' σ H', Rel ⟨X.K, C⟩ M' γ σ H' → Ext M M' H H' → Ed.ct γ M' → E.ct σ H'
  xx : ∀ γ M' σ H' xd cls d, Rel ⟨X.K, C⟩ M' γ σ H' → XIs ⟨X.K, C⟩ M' H' xd cls d → Ext M M' H H' → Ed.xx γ xd M' → wX X cls d σ H'
theorem Lk.ext {X : Cx} {C : Addr} {M M1 : Mem} {H H1 : Hp} {Ed : DEnds} {E : Ends} (l : Lk X C M H Ed E) (x : Ext M M1 H H1) : Lk X C M1 H1 Ed E :=
  ⟨fun γ M' σ H' r e => l.nx γ M' σ H' r (x.trans e), fun d M' v H' o i e => l.rt d M' v H' o i (x.trans e), fun γ M' σ H' r e => l.bk γ M' σ H' r (x.trans e), fun γ M' σ H' r e => l.ct γ M' σ H' r (x.trans e), fun γ M' σ H' xd cls d r i e => l.xx γ M' σ H' xd cls d r i (x.trans e)⟩
def SndS (X : Cx) (C : Addr) (t : TS) (v : DS) : Prop := ∀ (Ed : DEnds) (γ : Gm) (M : Mem) (σ : St) (H : Hp) (E : Ends), Rel ⟨X.K, C⟩ M γ σ H → Lk X C M H Ed E → v Ed γ M → t E σ H
structure QS (X : Cx) (C : Addr) (st : Stmt) (v : DS) : Prop where
  ex : ∃ t, PS X st t ∧ SndS X C t v
structure QSs (X : Cx) (C : Addr) (st : List Stmt) (v : DS) : Prop where
  ex : ∃ t, PSs X st t ∧ SndS X C t v
def vNext : DS := fun Ed γ M => Ed.nx γ M
def vSeq (a b : DS) : DS := fun Ed γ M => a { Ed with nx := b Ed } γ M
section
variable {X : Cx} {C : Addr} {st : Stmt} {rest : List Stmt} {v u : DS} {e : Expr} {ve : DE} {pos : Pos}
theorem qss_nil : QSs X C [] vNext := ⟨_, pss_nil, fun Ed γ M σ H E r l h => l.nx γ M σ H r Ext.refl h⟩
theorem snd_seq {t t2 : TS} (s1 : SndS X C t v) (s2 : SndS X C t2 u) : SndS X C (tSeq t t2) (vSeq v u) := fun Ed γ M σ H E r l h =>
  s1 { Ed with nx := u Ed } γ M σ H { E with nx := t2 E } r ⟨fun γ' M' σ' H' r' e' h' => s2 Ed γ' M' σ' H' E r' (l.ext e') h', l.rt, l.bk, l.ct, l.xx⟩ h
theorem qss_cons (h1 : QS X C st v) (h2 : QSs X C rest u) : QSs X C (st :: rest) (vSeq v u) :=
  let ⟨_, p, s⟩ := h1.ex; let ⟨_, p2, s2⟩ := h2.ex; ⟨_, pss_cons p p2, snd_seq s s2⟩
theorem qss_one (h1 : QS X C st v) : QSs X C [st] v := let ⟨_, p, s⟩ := h1.ex; ⟨_, pss_one p, s⟩
def vBreak : DS := fun Ed γ M => Ed.bk γ M
theorem qs_break : QS X C (.Break pos) vBreak := ⟨_, ps_break, fun Ed γ M σ H E r l h => l.bk γ M σ H r Ext.refl h⟩
def vDrop (a : DE) : DS := fun Ed γ M => a γ M fun _ M1 => Ed.nx γ M1
theorem qs_expr (he : QE X C e ve) (hs : swapsWith e none pos.line X.env = pure false := by rfl) : QS X C (.Expr e pos) (vDrop ve) :=
  let ⟨_, p, s⟩ := he.ex; ⟨_, ps_expr p hs, fun Ed γ M σ H E r l h => s γ M _ σ H _ r h fun d M1 x H1 o1 i1 e1 h1 => l.nx γ M1 σ H1 (r.mk' e1 o1) e1 h1⟩
def vRet (a : DE) : DS := fun Ed γ M => a γ M Ed.rt
theorem qs_ret (he : QE X C e ve) : QS X C (.Return (some e) pos) (vRet ve) :=
  let ⟨_, p, s⟩ := he.ex; ⟨_, ps_ret p, fun Ed γ M σ H E r l h => s γ M _ σ H _ r h fun d M1 x H1 o1 i1 e1 h1 => l.rt d M1 x H1 o1 i1 e1 h1⟩
def vIf (c : DT) (a b : DS) : DS := fun Ed γ M => c γ M fun k M1 => (k = true → a Ed γ M1) ∧ (k = false → b Ed γ M1)
theorem qs_if {c : Expr} {a b : List Stmt} {vc : DT} (hc : QT X C c vc) (ha : QSs X C a v) (hb : QSs X C b u) : QS X C (.If c a b pos) (vIf vc v u) := by
  obtain ⟨tc, pc, sc⟩ := hc.ex
  obtain ⟨ta, pa, sa⟩ := ha.ex
  obtain ⟨tb, pb, sb⟩ := hb.ex
  refine ⟨_, ps_if pc pa pb, fun Ed γ M σ H E r l h => sc γ M _ σ H _ r h fun k M1 H1 o1 e1 h1 => ?_⟩
  cases k with
  | true => rw [if_pos rfl]; exact sa Ed γ M1 σ H1 E (r.mk' e1 o1) (l.ext e1) (h1.1 rfl)
  | false => rw [if_neg Bool.false_ne_true]; exact sb Ed γ M1 σ H1 E (r.mk' e1 o1) (l.ext e1) (h1.2 rfl)
def vNever : DS := fun _ _ _ => False
theorem qs_never : QS X C st vNever := ⟨_, ps_never, fun _ _ _ _ _ _ _ _ h => h.elim⟩
theorem qss_never {sts : List Stmt} : QSs X C sts vNever := ⟨_, pss_never, fun _ _ _ _ _ _ _ _ h => h.elim⟩
abbrev DG := D → Gm → Mem → (Gm → Mem → Prop) → Prop
abbrev DGs := List D → Gm → Mem → (Gm → Mem → Prop) → Prop
def SndG (G : Gx) (t : TG) (g : DG) : Prop := ∀ (d : D) (γ : Gm) (M : Mem) (R : Gm → Mem → Prop) (σ : St) (H : Hp) (x : V) (Q : St → Hp → Prop), Rel G M γ σ H → Is G M H d x → g d γ M R →
  (∀ γ' M' σ' H', Rel G M' γ' σ' H' → Ext M M' H H' → R γ' M' → Q σ' H') → t x σ H Q
def SndGs (G : Gx) (t : TGs) (g : DGs) : Prop := ∀ (ds : List D) (γ : Gm) (M : Mem) (R : Gm → Mem → Prop) (σ : St) (H : Hp) (xs : List V) (Q : St → Hp → Prop), Rel G M γ σ H → IsL G M H ds xs → g ds γ M R →
  (∀ γ' M' σ' H', Rel G M' γ' σ' H' → Ext M M' H H' → R γ' M' → Q σ' H') → t xs σ H Q
structure QG (X : Cx) (C : Addr) (tg : Expr) (g : DG) : Prop where
  ex : ∃ t, PG X tg t ∧ SndG ⟨X.K, C⟩ t g
structure QGs (X : Cx) (C : Addr) (tg : List Expr) (g : DGs) : Prop where
  ex : ∃ t, PGs X tg t ∧ SndGs ⟨X.K, C⟩ t g
def dName (i : Nat) : DG := fun d γ M R => R (gset γ i (some d)) M
theorem sndG_name {G : Gx} {i : Nat} : SndG G (gName i) (dName i) := fun d γ M R σ H x Q r i1 h k => k _ M _ H ⟨r.sl.set i1, r.ow⟩ Ext.refl h
theorem qg_name {i : Nat} {x : Str} (hN : X.N.Nodup) (hi : X.N[i]? = some x := by rfl) (hx : Loc X.env.scope x := by first | exact Or.inl rfl | exact Or.inr rfl) (hf : X.fn x = true ∨ X.env.scope.names.lookup x = some .local := by first | exact .inl rfl | exact .inr rfl | assumption) : QG X C (.Name x pos) (dName i) :=
  ⟨_, pg_name hN hi hx hf, sndG_name⟩
def dNil : DGs := fun ds γ M R => match ds with
  | [] => R γ M
  | _ => False
def dCons (g : DG) (gs : DGs) : DGs := fun ds γ M R => match ds with
  | d :: r => g d γ M fun γ' M' => gs r γ' M' R
  | [] => False
theorem qgs_nil : QGs X C [] dNil := ⟨_, pgs_nil, fun ds γ M R σ H xs Q r i1 h k => by
  match ds, xs, i1, h with
  | [], [], _, h => exact ⟨rfl, k γ M σ H r Ext.refl h⟩
  | [], _ :: _, i1, _ => unfold IsL at i1; exact i1.elim⟩
theorem qgs_cons {es : List Expr} {g : DG} {gs : DGs} (h1 : QG X C e g) (h2 : QGs X C es gs) (hs : (assignEach (e :: es) X.env).map (·.2) = assign e X.env :: (assignEach es X.env).map (·.2) := by rfl) : QGs X C (e :: es) (dCons g gs) := by
  obtain ⟨t, p, s⟩ := h1.ex
  obtain ⟨t2, p2, s2⟩ := h2.ex
  refine ⟨_, pgs_cons p p2 hs, fun ds γ M R σ H xs Q r i1 h k => ?_⟩
  match ds, xs, i1, h with
  | d :: ds, x :: xs, i1, h =>
    unfold IsL at i1
    exact ⟨x, xs, rfl, s d γ M _ σ H x _ r i1.1 h fun γ' M' σ' H' r' e' h' => s2 ds γ' M' R σ' H' xs Q r' (IsL.ext e' ds xs i1.2) h' fun γ2 M2 σ2 H2 r2 e2 h2 => k γ2 M2 σ2 H2 r2 (e'.trans e2) h2⟩
  | _ :: _, [], i1, _ => unfold IsL at i1; exact i1.elim
def dTup (n : Nat) (gs : DGs) : DG := fun d γ M R => match d with
  | .tup ds => ds.length = n ∧ gs ds γ M R
  | _ => False
theorem qg_tup {es : List Expr} {k : Nat} {gs : DGs} {n : Nat} (h : QGs X C es gs) (hc : X.calm = true := by rfl) (hn : (assignEach es X.env).length = n := by rfl) (hst : (assignEach es X.env).findIdx? (·.1) = none := by rfl) : QG X C (.Tuple es k pos) (dTup n gs) := by
  obtain ⟨t, p, s⟩ := h.ex
  refine ⟨_, pg_tup hc p hn hst, fun d γ M R σ H x Q r i1 h k => ?_⟩
  cases d with
  | tup ds =>
    have i2 := i1
    unfold Is at i2
    obtain ⟨a, xs, e1, m, ha, hl⟩ := i2
    exact ⟨a, xs, e1, SqT.of ha, by rw [← hl.len]; exact h.1, s ds γ M R σ H xs Q r hl h.2 k⟩
  | _ => exact False.elim h
def dSub (o i : DE) : DG := fun d γ M R => o γ M fun od M1 => i γ M1 fun id M2 => match od, id with
  | .own a, .int k => (match M2 a with
    | some (.lst ds) => pureD d = true ∧ ∃ j, ixN ds.length k = some j ∧ R γ (mset M2 a (.lst (ds.set j d)))
    | _ => False)
  | _, _ => False
theorem pureL_set : ∀ {ds : List D} {j : Nat} {d : D}, pureL ds = true → pureD d = true → pureL (ds.set j d) = true
  | [], _, _, _, _ => by simp [pureL]
  | x :: r, 0, d, h, hd => by
    unfold pureL at h
    rw [Bool.and_eq_true] at h
    show pureL (d :: r) = true
    unfold pureL
    rw [hd, h.2]; rfl
  | x :: r, j + 1, d, h, hd => by
    unfold pureL at h
    rw [Bool.and_eq_true] at h
    show pureL (x :: r.set j d) = true
    unfold pureL
    rw [h.1, pureL_set h.2 hd]; rfl
theorem pureL_append : ∀ {ds es : List D}, pureL ds = true → pureL es = true → pureL (ds ++ es) = true
  | [], _, _, h => h
  | x :: r, es, h, he => by
    unfold pureL at h
    rw [Bool.and_eq_true] at h
    show pureL (x :: (r ++ es)) = true
    unfold pureL
    rw [h.1, pureL_append h.2 he]; rfl
theorem qg_sub {o i : Expr} {vo vi : DE} (ho : QE X C o vo) (hi : QE X C i vi)
    (ha : ∀ v, assign (.Subscript o i pos) X.env v = (do
      let ov ← holding [v] (eval o X.env)
      let iv ← holding [v, ov] (eval i X.env)
      standAt pos
      holding [v, ov, iv] (setItem ov iv v)
      release [v, ov, iv] []) := by intro _; rfl) : QG X C (.Subscript o i pos) (dSub vo vi) := by
  obtain ⟨to, po, so⟩ := ho.ex
  obtain ⟨ti, pi, si⟩ := hi.ex
  refine ⟨_, pg_sub po pi set_list ha, fun d γ M R σ H x Q r i1 h k => so γ M _ σ H _ r h fun od M1 ox H1 o1 j1 e1 h1 => si γ M1 _ σ H1 _ (r.mk' e1 o1) h1 fun id M2 ix H2 o2 j2 e2 h2 => ?_⟩
  cases od with
  | own a =>
    cases id with
    | int z =>
      have ja := Is.ext e2 _ _ j1
      unfold Is at ja j2
      cases q : M2 a with
      | none => simp only [q] at h2
      | some m =>
        cases m with
        | lst ds =>
          simp only [q] at h2
          obtain ⟨pd, j, hj, hr⟩ := h2
          obtain ⟨pu, xs, ha, hl⟩ := o2 a _ q
          refine ⟨a, xs, z, j, ja.1, j2, ha, by rw [← hl.len]; exact hj, ?_⟩
          have x12 := e1.trans e2
          have is2 := Is.ext x12 d x i1
          exact k γ (mset M2 a (.lst (ds.set j d))) σ _ ⟨(r.sl.ext x12).ext (Ext.put ja.2), o2.put ja.2 (pureL_set pu pd) (hl.set is2)⟩ (x12.trans (Ext.put ja.2)) hr
        | _ => simp only [q] at h2
    | _ => exact False.elim h2
  | _ => exact False.elim h2
def vAsg (a : DE) (g : DG) : DS := fun Ed γ M => a γ M fun d M1 => g d γ M1 Ed.nx
theorem snd_asg {ta : TE} {tg : TG} {g : DG} (sa : Snd ⟨X.K, C⟩ ta ve) (sg : SndG ⟨X.K, C⟩ tg g) : SndS X C (tAsg ta tg) (vAsg ve g) := fun Ed γ M σ H E r l h =>
  sa γ M _ σ H _ r h fun d M1 x H1 o1 i1 e1 h1 => sg d γ M1 _ σ H1 x _ (r.mk' e1 o1) i1 h1 fun γ' M' σ' H' r' e' h' => l.nx γ' M' σ' H' r' (e1.trans e') h'
theorem qs_asg {tg : Expr} {g : DG} (he : QE X C e ve) (hg : QG X C tg g) (hs : swapsWithSole [tg] e pos.line X.env = pure false := by rfl) (hw : swappedStores [tg] e X.env = pure none := by rfl)
    (h1 : (assignEach [tg] X.env).map (·.2) = [assign tg X.env] := by rfl) : QS X C (.Assign [tg] e pos) (vAsg ve g) :=
  let ⟨_, p, s⟩ := he.ex; let ⟨_, p2, s2⟩ := hg.ex; ⟨_, ps_asg p p2 hs hw h1, snd_asg s s2⟩
theorem qs_set {i : Nat} {x : Str} {pos' : Pos} (hN : X.N.Nodup) (he : QE X C e ve) (hi : X.N[i]? = some x := by rfl) (hx : Loc X.env.scope x := by first | exact Or.inl rfl | exact Or.inr rfl) (hs : swapsWith e (some (.Name x pos')) pos.line X.env = pure false := by rfl) (hf : X.fn x = true ∨ X.env.scope.names.lookup x = some .local := by first | exact .inl rfl | exact .inr rfl | assumption) :
    QS X C (.Assign [.Name x pos'] e pos) (vAsg ve (dName i)) :=
  let ⟨_, p, s⟩ := he.ex; ⟨_, ps_set hN hi hx p hs hf, snd_asg s sndG_name⟩
def vPar (i j : Nat) (a : DA) : DS := fun Ed γ M => a γ M fun ds M1 => match ds with
  | [x, y] => Ed.nx (gset (gset γ i (some x)) j (some y)) M1
  | _ => False
theorem qs_par {i j : Nat} {x y : Str} {a b : Expr} {va : DA} {px py pt : Pos} {kt k2 pt2} (hN : X.N.Nodup) (ha : QA X C [a, b] va) (hi : X.N[i]? = some x := by rfl) (hj : X.N[j]? = some y := by rfl) (hij : i ≠ j := by decide)
    (hx : X.env.scope.names.lookup x = some .local := by rfl) (hy : X.env.scope.names.lookup y = some .local := by rfl) (hc : X.calm = true := by rfl)
    (hw : swappedStores [.Tuple [.Name x px, .Name y py] kt pt] (.Tuple [a, b] k2 pt2) X.env = pure (some [x, y]) := by rfl)
    (hs : swapsWithSole [.Tuple [.Name x px, .Name y py] kt pt] (.Tuple [a, b] k2 pt2) pos.line X.env = pure false := by rfl) :
    QS X C (.Assign [.Tuple [.Name x px, .Name y py] kt pt] (.Tuple [a, b] k2 pt2) pos) (vPar i j va) := by
  obtain ⟨ta, pa, sa⟩ := ha.ex
  refine ⟨_, ps_par hc hN hi hj hij hx hy pa hw hs, fun Ed γ M σ H E r l h => sa γ M _ σ H _ r h fun ds M1 xs H1 o1 i1 e1 h1 => ?_⟩
  match ds, h1 with
  | [d, f], h1 =>
    obtain ⟨v, w, e2, q1, q2⟩ := isL2 i1
    exact ⟨v, w, e2, l.nx _ M1 _ H1 ⟨((r.sl.ext e1).set q1).set q2, o1⟩ e1 h1⟩
def vAug (i : Nat) (f : Int → Int → Int) (a : DE) : DS := fun Ed γ M => match gt γ i with
  | some (.int x) => a γ M fun d M1 => (match d with
    | .int y => Ed.nx (gset γ i (some (.int (f x y)))) M1
    | _ => False)
  | _ => False
theorem qs_augG {i : Nat} {x : Str} {op : Operator} {f : Int → Int → Int} {pos' : Pos} (ho : PIp X op (ipI f)) (hN : X.N.Nodup) (he : QE X C e ve) (hi : X.N[i]? = some x := by rfl) (hx : Loc X.env.scope x := by first | exact Or.inl rfl | exact Or.inr rfl) (hf : X.fn x = true ∨ X.env.scope.names.lookup x = some .local := by first | exact .inl rfl | exact .inr rfl | assumption) :
    QS X C (.AugAssign (.Name x pos') op e pos) (vAug i f ve) := by
  obtain ⟨t, p, s⟩ := he.ex
  refine ⟨_, ps_aug hN hi hx p ho hf, fun Ed γ M σ H E r l h => ?_⟩
  unfold vAug at h
  split at h
  · rename_i z q
    obtain ⟨v, h1, h2⟩ := r.sl.get q
    unfold Is at h2
    refine ⟨v, h1, s γ M _ σ H _ r h fun d M1 y H1 o1 i1 e1 h3 => ?_⟩
    split at h3
    · rename_i w
      unfold Is at i1
      exact ⟨z, w, h2, i1, l.nx _ M1 _ H1 ⟨(r.sl.ext e1).set is_int, o1⟩ e1 h3⟩
    · exact h3.elim
  · exact h.elim
def vWhile (c : DT) (b : DS) : DS := fun Ed γ M => ∃ W : Nat → Gm → Mem → Prop, (∃ m, W m γ M) ∧ ∀ m γ' M', W m γ' M' →
  c γ' M' fun k M1 => (k = true → b { Ed with nx := fun γ2 M2 => ∃ m2, m2 < m ∧ W m2 γ2 M2, ct := fun γ2 M2 => ∃ m2, m2 < m ∧ W m2 γ2 M2, bk := Ed.nx } γ' M1) ∧ (k = false → Ed.nx γ' M1)
theorem qs_while {c : Expr} {body : List Stmt} {vc : DT} (hc : QT X C c vc) (hb : QSs X C body v) (hp : PassesOwn (model X.prog X.w) X.A X.env X.xe := by first | exact PassesOwn.never | exact passes_of rfl | assumption) : QS X C (.While c body [] pos) (vWhile vc v) := by
  obtain ⟨tc, pc, sc⟩ := hc.ex
  obtain ⟨tb, pb, sb⟩ := hb.ex
  refine ⟨_, ps_while hp pc pb, fun Ed γ M σ H E r l h => ?_⟩
  obtain ⟨W, ⟨m0, w0⟩, turn⟩ := h
  refine ⟨fun m σ' H' => ∃ γ' M', Rel ⟨X.K, C⟩ M' γ' σ' H' ∧ Ext M M' H H' ∧ W m γ' M', ⟨m0, γ, M, r, Ext.refl, w0⟩, ?_⟩
  rintro m σ' H' ⟨γ', M', r', e', w'⟩
  refine sc γ' M' _ σ' H' _ r' (turn m γ' M' w') fun k M1 H1 o1 e1 h1 => ?_
  cases k with
  | true =>
    rw [if_pos rfl]
    refine ⟨fun σ2 H2 => ∃ m2, m2 < m ∧ ∃ γ2 M2, Rel ⟨X.K, C⟩ M2 γ2 σ2 H2 ∧ Ext M M2 H H2 ∧ W m2 γ2 M2, fun σ2 H2 ⟨m2, hm, q⟩ => ⟨m2, hm, q⟩, ?_⟩
    refine sb _ γ' M1 σ' H1 _ (r'.mk' e1 o1) ⟨?_, ?_, ?_, ?_, ?_⟩ (h1.1 rfl)
    · rintro γ2 M2 σ2 H2 r2 e2 ⟨m2, hm, w2⟩
      exact ⟨m2, hm, γ2, M2, r2, (e'.trans e1).trans e2, w2⟩
    · exact (l.ext (e'.trans e1)).rt
    · exact (l.ext (e'.trans e1)).nx
    · rintro γ2 M2 σ2 H2 r2 e2 ⟨m2, hm, w2⟩
      exact ⟨m2, hm, γ2, M2, r2, (e'.trans e1).trans e2, w2⟩
    · exact (l.ext (e'.trans e1)).xx
  | false =>
    rw [if_neg Bool.false_ne_true]
    exact l.nx γ' M1 σ' H1 (r'.mk' e1 o1) (e'.trans e1) (h1.2 rfl)
end
structure ItD where
  its : List D
  st : Mem → Prop
def ItR (G : Gx) (M1 : Mem) (H1 : Hp) (J : It) (j : ItD) : Prop := ∀ (M : Mem) (H : Hp), Ext M1 M H1 H → Own G M H → j.st M → ∀ i : Nat,
  (∀ d, j.its[i]? = some d → J.go i H ∧ ∀ x H', J.yld i H x H' → Own G M H' ∧ Is G M H' d x ∧ Ext M M H H') ∧ (j.its.length ≤ i → J.stop i H)
abbrev DI := Gm → Mem → (ItD → Mem → Prop) → Prop
def SndI (G : Gx) (wi : TI) (v : DI) : Prop := ∀ (γ : Gm) (M : Mem) (R : ItD → Mem → Prop) (σ : St) (H : Hp) (Q : It → Hp → Prop), Rel G M γ σ H → v γ M R →
  (∀ j J M' H', Own G M' H' → Ext M M' H H' → ItR G M' H' J j → R j M' → Q J H') → wi σ H Q
structure QI (X : Cx) (C : Addr) (tg iter : Expr) (v : DI) : Prop where
  ex : ∃ wi, PI X tg iter wi ∧ SndI ⟨X.K, C⟩ wi v
section
variable {X : Cx} {C : Addr} {tg : Expr} {e : Expr} {ve : DE} {pos : Pos}
def liD (d : D) (ds : List D) : ItD := ⟨ds, fun M => seqI M d = some ds⟩
def wList (a : DE) : DI := fun γ M R => a γ M fun d M1 => match isTup d, seqI M1 d with
  | false, some ds => R (liD d ds) M1
  | _, _ => False
theorem qi_list (he : QE X C e ve) : QI X C tg e (wList ve) := by
  obtain ⟨t, p, s⟩ := he.ex
  refine ⟨_, pi_list p, fun γ M R σ H Q r h k => s γ M _ σ H _ r h fun d M1 x H1 o1 i1 e1 h1 => ?_⟩
  cases q : isTup d with
  | true => rw [q] at h1; exact h1.elim
  | false =>
    cases q2 : seqI M1 d with
    | none => rw [q, q2] at h1; exact h1.elim
    | some ds =>
      rw [q, q2] at h1
      obtain ⟨a, xs, ex, l, sq⟩ := seq_at o1 i1 q2
      rcases sq with ⟨_, sq⟩ | ⟨z, _⟩
      · refine ⟨a, ex, ⟨xs, sq⟩, k _ _ M1 H1 o1 e1 ?_ h1⟩
        intro M' H' x' o' st i
        obtain ⟨a', xs', ex', l', sq'⟩ := seq_at o' (Is.ext x' d x i1) st
        have ea : a' = a := by rw [ex] at ex'; cases ex'; rfl
        subst ea
        rcases sq' with ⟨_, sq'⟩ | ⟨z, _⟩
        · refine ⟨fun d' hd => ?_, fun hn => ⟨xs', sq', by rw [← l'.len]; exact hn⟩⟩
          obtain ⟨v, hv, iv⟩ := l'.get hd
          refine ⟨⟨xs', v, sq', hv⟩, fun y H2 hy => ?_⟩
          obtain ⟨eH, hy⟩ := hy
          subst eH
          have ey := hy xs' sq'
          rw [hv] at ey
          cases ey
          exact ⟨o', iv, Ext.refl⟩
        · rw [q] at z; cases z
      · rw [q] at z; cases z
def wTup (a : DE) : DI := fun γ M R => a γ M fun d M1 => match d with
  | .tup ds => R ⟨ds, fun _ => True⟩ M1
  | _ => False
theorem qi_tup (he : QE X C e ve) : QI X C tg e (wTup ve) := by
  obtain ⟨t, p, s⟩ := he.ex
  refine ⟨_, pi_tup p, fun γ M R σ H Q r h k => s γ M _ σ H _ r h fun d M1 x H1 o1 i1 e1 h1 => ?_⟩
  cases d with
  | tup ds =>
    have i2 := i1
    unfold Is at i2
    obtain ⟨a, xs, ex, m, ha, hl⟩ := i2
    refine ⟨a, ex, ⟨xs, SqT.of ha⟩, k _ _ M1 H1 o1 e1 ?_ h1⟩
    intro M' H' x' o' st i
    have ha' : H' a = some (.tup xs) := (x'.st a _ m ha).1
    have l' := IsL.ext x' ds xs hl
    refine ⟨fun d' hd => ?_, fun hn => ⟨xs, SqT.of ha', by rw [← l'.len]; exact hn⟩⟩
    obtain ⟨v, hv, iv⟩ := l'.get hd
    refine ⟨⟨xs, v, SqT.of ha', hv⟩, fun y H2 hy => ?_⟩
    obtain ⟨eH, hy⟩ := hy
    subst eH
    have ey := hy xs (SqT.of ha')
    rw [hv] at ey
    cases ey
    exact ⟨o', iv, Ext.refl⟩
  | _ => exact False.elim h1
def rngD (lo : Int) (n : Nat) : List D := (List.range n).map fun (i : Nat) => D.int (lo + (i : Int))
theorem rngD_get (lo : Int) (n i : Nat) (d : D) : (rngD lo n)[i]? = some d ↔ i < n ∧ d = .int (lo + i) := by
  unfold rngD
  rw [List.getElem?_map]
  by_cases h : i < n
  · rw [List.getElem?_range h]
    simp [h, eq_comm]
  · have e : (List.range n)[i]? = none := by simp; omega
    rw [e]; simp [h]
theorem rngD_len (lo : Int) (n : Nat) : (rngD lo n).length = n := by simp [rngD]
theorem itR_rng {G : Gx} {M1 : Mem} {H1 : Hp} {lo : Int} {n : Nat} : ItR G M1 H1 (Itr lo n) ⟨rngD lo n, fun _ => True⟩ := by
  intro M H x o st i
  refine ⟨fun d hd => ?_, fun hn => by rw [rngD_len] at hn; exact hn⟩
  obtain ⟨hi, ed⟩ := (rngD_get lo n i d).mp hd
  refine ⟨hi, fun y H' hy => ?_⟩
  obtain ⟨eH, ey⟩ := hy
  subst eH
  rw [ed, ey]
  exact ⟨o, is_int, Ext.refl⟩
def wRng1 (a : DA) : DI := fun γ M R => a γ M fun ds M1 => match ds with
  | [.int j] => -(2 ^ 62) ≤ j ∧ j < 2 ^ 62 ∧ R ⟨rngD 0 j.toNat, fun _ => True⟩ M1
  | _ => False
section
variable {X : Cx} {tg : Expr}
end
theorem qi_rng1 {va : DA} {p : Pos} (hm : X.mg "range" = none) (ha : QA X C [e] va) (hg : Gl X "range" := by rfl) (hs : starEach [e] X.env = [(false, eval e X.env)] := by rfl) : QI X C tg (.Call (.Name "range" p) [e] [] pos) (wRng1 va) := by
  obtain ⟨t, p, s⟩ := ha.ex
  refine ⟨_, pi_range1 hg hm p hs, fun γ M R σ H Q r h k => s γ M _ σ H _ r h fun ds M1 xs H1 o1 i1 e1 h1 => ?_⟩
  match ds, h1 with
  | [.int j], h1 =>
    obtain ⟨v, ev, q⟩ := isL1 i1
    unfold Is at q
    exact ⟨j, by rw [ev, q], h1.1, h1.2.1, k _ _ M1 H1 o1 e1 itR_rng h1.2.2⟩
def vFor (w : DI) (g : DG) (b : DS) : DS := fun Ed γ M => w γ M fun j M1 => ∃ W : Nat → Gm → Mem → Prop, W 0 γ M1 ∧ (∀ i γ' M', W i γ' M' → j.st M') ∧
  (∀ i d γ' M', W i γ' M' → j.its[i]? = some d → g d γ' M' fun γ2 M2 => b { Ed with nx := W (i + 1), ct := W (i + 1), bk := Ed.nx } γ2 M2) ∧ (∀ γ' M', W j.its.length γ' M' → Ed.nx γ' M')
theorem qs_for {iter : Expr} {body : List Stmt} {w : DI} {g : DG} {v : DS} (hi : QI X C tg iter w) (hg : QG X C tg g) (hb : QSs X C body v) (hp : PassesOwn (model X.prog X.w) X.A X.env X.xe := by first | exact PassesOwn.never | exact passes_of rfl | assumption) (hc : X.calm = true := by rfl) (hs : ∀ x, foldedSetIterable iter X.env x = pure x := by intro _; rfl) : QS X C (.For tg iter body [] pos) (vFor w g v) := by
  obtain ⟨wi, pi, si⟩ := hi.ex
  obtain ⟨tg', pg, sg⟩ := hg.ex
  obtain ⟨tb, pb, sb⟩ := hb.ex
  refine ⟨_, ps_for hp hc pi pg pb hs, fun Ed γ M σ H E r l h => si γ M _ σ H _ r h fun j J M1 H1 o1 e1 ir h1 => ?_⟩
  obtain ⟨W, w0, wst, step, fin⟩ := h1
  refine ⟨fun i m σ' H' => m = j.its.length - i ∧ i ≤ j.its.length ∧ ∃ γ' M', Rel ⟨X.K, C⟩ M' γ' σ' H' ∧ Ext M1 M' H1 H' ∧ W i γ' M', ⟨j.its.length, by simp, Nat.zero_le _, γ, M1, r.mk' e1 o1, Ext.refl, w0⟩, ?_⟩
  rintro i m σ' H' ⟨rfl, hi', γ', M', r', e', w'⟩
  obtain ⟨go, stop⟩ := ir M' H' e' r'.ow (wst i γ' M' w') i
  by_cases hlt : i < j.its.length
  · have hd : j.its[i]? = some j.its[i] := by simp [hlt]
    obtain ⟨g1, y1⟩ := go _ hd
    refine .inr ⟨g1, fun σ2 H2 => ∃ γ2 M2, Rel ⟨X.K, C⟩ M2 γ2 σ2 H2 ∧ Ext M1 M2 H1 H2 ∧ W (i + 1) γ2 M2, fun σ2 H2 q => ⟨j.its.length - (i + 1), by omega, rfl, hlt, q⟩, fun x H2 hy => ?_⟩
    obtain ⟨o2, i2, e2⟩ := y1 x H2 hy
    refine sg j.its[i] γ' M' _ σ' H2 x _ (r'.mk' e2 o2) i2 (step i _ γ' M' w' hd) fun γ3 M3 σ3 H3 r3 e3 h3 => ?_
    have x13 := (e'.trans e2).trans e3
    refine sb _ γ3 M3 σ3 H3 _ r3 ⟨?_, ?_, ?_, ?_, ?_⟩ h3
    · intro γ4 M4 σ4 H4 r4 e4 w4
      exact ⟨γ4, M4, r4, x13.trans e4, w4⟩
    · exact (l.ext (e1.trans x13)).rt
    · exact (l.ext (e1.trans x13)).nx
    · intro γ4 M4 σ4 H4 r4 e4 w4
      exact ⟨γ4, M4, r4, x13.trans e4, w4⟩
    · exact (l.ext (e1.trans x13)).xx
  · have en : i = j.its.length := by omega
    subst en
    exact .inl ⟨stop (Nat.le_refl _), l.nx γ' M' σ' H' r' (e1.trans e') (fin γ' M' w')⟩
end
end Dl
namespace Dl
open PySem L2
theorem wipe_in {σ : St} {j : Nat} : ∀ {vs : List Nat}, j ∈ vs → (wipe σ vs)[j]? = if j < σ.length then some none else none
  | [], h => by cases h
  | v :: vs, h => by
    unfold wipe
    by_cases e : v = j
    · subst e
      by_cases hl : v < σ.length
      · rw [if_pos hl, List.getElem?_set_self (by rw [wipe_length]; exact hl)]
      · rw [if_neg hl]
        rw [List.getElem?_eq_none_iff.mpr]
        rw [List.length_set, wipe_length]; omega
    · rw [List.getElem?_set_ne e]
      rcases List.mem_cons.mp h with z | z
      · exact absurd z.symm e
      · exact wipe_in z
theorem wipe_eq {σ τ : St} {vs : List Nat} (hl : σ.length = τ.length) (h : ∀ j, j ∉ vs → σ[j]? = τ[j]?) : wipe σ vs = wipe τ vs := by
  apply List.ext_getElem?
  intro j
  by_cases hj : j ∈ vs
  · rw [wipe_in hj, wipe_in hj, hl]
  · rw [wipe_out hj, wipe_out hj]; exact h j hj
theorem wipe_set {σ : St} {i : Nat} {x : Option V} {vs : List Nat} (hi : i ∈ vs) : wipe (σ.set i x) vs = wipe σ vs :=
  wipe_eq (by simp) fun j hj => by
    have ne : i ≠ j := fun e => hj (e ▸ hi)
    rw [List.getElem?_set_ne ne]
theorem wipe_wipe {σ : St} {vs : List Nat} : wipe (wipe σ vs) vs = wipe σ vs := wipe_eq (wipe_length σ vs) fun _ hj => wipe_out hj
def gwipe (γ : Gm) : List Nat → Gm
  | [] => γ
  | v :: vs => gset (gwipe γ vs) v none
theorem SlR.unset {G : Gx} {M : Mem} {H : Hp} : ∀ {γ : Gm} {σ : St} {i : Nat}, SlR G M H γ σ → SlR G M H (gset γ i none) (σ.set i none)
  | [], [], _, _ => trivial
  | [], _ :: _, _, h => h.elim
  | a :: _, [], _, h => by cases a <;> exact h.elim
  | none :: r, y :: s, 0, h => h
  | some _ :: r, y :: s, 0, h => h.2
  | none :: r, y :: s, i + 1, h => SlR.unset (γ := r) (σ := s) (i := i) h
  | some _ :: r, y :: s, i + 1, h => ⟨h.1, SlR.unset (γ := r) (σ := s) (i := i) h.2⟩
theorem SlR.wipe {G : Gx} {M : Mem} {H : Hp} {γ : Gm} {σ : St} (h : SlR G M H γ σ) : ∀ vs : List Nat, SlR G M H (gwipe γ vs) (L2.wipe σ vs)
  | [] => h
  | _ :: vs => SlR.unset (SlR.wipe h vs)
def SndGW (G : Gx) (t : TG) (g : DG) (vs : List Nat) : Prop := ∀ (d : D) (γ : Gm) (M : Mem) (R : Gm → Mem → Prop) (σ : St) (H : Hp) (x : V) (Q : St → Hp → Prop), Rel G M γ σ H → Is G M H d x → g d γ M R →
  (∀ γ' M' σ' H', Rel G M' γ' σ' H' → Ext M M' H H' → wipe σ' vs = wipe σ vs → R γ' M' → Q σ' H') → t x σ H Q
def SndGsW (G : Gx) (t : TGs) (g : DGs) (vs : List Nat) : Prop := ∀ (ds : List D) (γ : Gm) (M : Mem) (R : Gm → Mem → Prop) (σ : St) (H : Hp) (xs : List V) (Q : St → Hp → Prop), Rel G M γ σ H → IsL G M H ds xs → g ds γ M R →
  (∀ γ' M' σ' H', Rel G M' γ' σ' H' → Ext M M' H H' → wipe σ' vs = wipe σ vs → R γ' M' → Q σ' H') → t xs σ H Q
structure QGW (X : Cx) (C : Addr) (tg : Expr) (g : DG) (vs : List Nat) : Prop where
  ex : ∃ t, PG X tg t ∧ SndGW ⟨X.K, C⟩ t g vs
structure QGsW (X : Cx) (C : Addr) (tg : List Expr) (g : DGs) (vs : List Nat) : Prop where
  ex : ∃ t, PGs X tg t ∧ SndGsW ⟨X.K, C⟩ t g vs
section
variable {X : Cx} {C : Addr} {e : Expr} {pos : Pos} {vs : List Nat}
theorem qgw_name {i : Nat} {x : Str} (hN : X.N.Nodup) (hv : i ∈ vs := by decide) (hi : X.N[i]? = some x := by rfl) (hx : Loc X.env.scope x := by first | exact Or.inl rfl | exact Or.inr rfl) (hf : X.fn x = true ∨ X.env.scope.names.lookup x = some .local := by first | exact .inl rfl | exact .inr rfl | assumption) : QGW X C (.Name x pos) (dName i) vs :=
  ⟨_, pg_name hN hi hx hf, fun d γ M R σ H x Q r i1 h k => k _ M _ H ⟨r.sl.set i1, r.ow⟩ Ext.refl (wipe_set hv) h⟩
theorem qgsw_nil : QGsW X C [] dNil vs := ⟨_, pgs_nil, fun ds γ M R σ H xs Q r i1 h k => by
  match ds, xs, i1, h with
  | [], [], _, h => exact ⟨rfl, k γ M σ H r Ext.refl rfl h⟩
  | [], _ :: _, i1, _ => unfold IsL at i1; exact i1.elim⟩
theorem qgsw_cons {es : List Expr} {g : DG} {gs : DGs} (h1 : QGW X C e g vs) (h2 : QGsW X C es gs vs) (hs : (assignEach (e :: es) X.env).map (·.2) = assign e X.env :: (assignEach es X.env).map (·.2) := by rfl) : QGsW X C (e :: es) (dCons g gs) vs := by
  obtain ⟨t, p, s⟩ := h1.ex
  obtain ⟨t2, p2, s2⟩ := h2.ex
  refine ⟨_, pgs_cons p p2 hs, fun ds γ M R σ H xs Q r i1 h k => ?_⟩
  match ds, xs, i1, h with
  | d :: ds, x :: xs, i1, h =>
    unfold IsL at i1
    exact ⟨x, xs, rfl, s d γ M _ σ H x _ r i1.1 h fun γ' M' σ' H' r' e' w' h' => s2 ds γ' M' R σ' H' xs Q r' (IsL.ext e' ds xs i1.2) h' fun γ2 M2 σ2 H2 r2 e2 w2 h2 => k γ2 M2 σ2 H2 r2 (e'.trans e2) (w2.trans w') h2⟩
  | _ :: _, [], i1, _ => unfold IsL at i1; exact i1.elim
theorem qgw_tup {es : List Expr} {k : Nat} {gs : DGs} {n : Nat} (h : QGsW X C es gs vs) (hc : X.calm = true := by rfl) (hn : (assignEach es X.env).length = n := by rfl) (hst : (assignEach es X.env).findIdx? (·.1) = none := by rfl) : QGW X C (.Tuple es k pos) (dTup n gs) vs := by
  obtain ⟨t, p, s⟩ := h.ex
  refine ⟨_, pg_tup hc p hn hst, fun d γ M R σ H x Q r i1 h k => ?_⟩
  cases d with
  | tup ds =>
    have i2 := i1
    unfold Is at i2
    obtain ⟨a, xs, e1, m, ha, hl⟩ := i2
    exact ⟨a, xs, e1, SqT.of ha, by rw [← hl.len]; exact h.1, s ds γ M R σ H xs Q r hl h.2 k⟩
  | _ => exact False.elim h
def liftG (G : Gx) (g : DG) (vs : List Nat) : TG := fun x σ H Q => ∃ (d : D) (γ : Gm) (M : Mem) (R : Gm → Mem → Prop), Rel G M γ σ H ∧ Is G M H d x ∧ g d γ M R ∧
  ∀ γ' M' σ' H', Rel G M' γ' σ' H' → Ext M M' H H' → wipe σ' vs = wipe σ vs → R γ' M' → Q σ' H'
theorem QGW.lift {g : DG} (h : QGW X C e g vs) : PG X e (liftG ⟨X.K, C⟩ g vs) := by
  obtain ⟨t, p, s⟩ := h.ex
  exact ⟨fun pins s0 σ H v u Q I rv ⟨d, γ, M, R, re, is, hg, k⟩ => p.run pins s0 σ H v u Q I rv (s d γ M R σ H v Q re is hg k)⟩
def vYes : DT := fun _ M R => R true M
structure QTs (X : Cx) (C : Addr) (ifs : List Expr) (v : DT) : Prop where
  ex : ∃ t, PTs X ifs t ∧ SndT ⟨X.K, C⟩ t v
theorem qts_nil : QTs X C [] vYes := ⟨_, pts_nil, fun γ M R σ H Q r h k => k true M H r.ow Ext.refl h⟩
theorem qts_one {v : DT} (h : QT X C e v) : QTs X C [e] v := let ⟨_, p, s⟩ := h.ex; ⟨_, pts_one p, s⟩
theorem QTs.lift {ifs : List Expr} {v : DT} (h : QTs X C ifs v) : PTs X ifs (liftT ⟨X.K, C⟩ v) := by
  obtain ⟨t, p, s⟩ := h.ex
  exact ⟨fun pins s0 σ H Q I ⟨γ, M, R, re, hv, k⟩ => p.run pins s0 σ H Q I (s γ M R σ H Q re hv k)⟩
def vLc (w : DI) (g : DG) (t : DT) (e : DE) (vs : List Nat) : DE := fun γ M R => w γ M fun j M1 => ∀ p, M1 p = none → ∃ W : Nat → List D → Mem → Prop, W 0 [] M1 ∧
  (∀ i acc M', W i acc M' → M' p = none ∧ acc.length < sizeLine ∧ j.st (mset M' p (.lst acc))) ∧
  (∀ i acc M' d, W i acc M' → j.its[i]? = some d → g d (gwipe γ vs) (mset M' p (.lst acc)) fun γ2 M2 => t γ2 M2 fun b M3 =>
    (b = true → e γ2 M3 fun y M4 => pureD y = true ∧ ∃ M5, M4 = mset M5 p (.lst acc) ∧ W (i + 1) (acc ++ [y]) M5) ∧ (b = false → ∃ M5, M3 = mset M5 p (.lst acc) ∧ W (i + 1) acc M5)) ∧
  (∀ acc M', W j.its.length acc M' → R (.lst acc) M')
theorem snd_lc {G : Gx} {wi : TI} {w : DI} {g : DG} {t : DT} {ve : DE} (si : SndI G wi w) : Snd G (tLc wi (liftG G g vs) (liftT G t) (Dl.lift G ve) vs) (vLc w g t ve vs) := by
  intro γ M R σ H Q r h k
  refine si γ M _ σ H _ r h fun j J M1 H1 o1 e1 ir h1 p hp => ?_
  have mp : M1 p = none := o1.fresh hp
  obtain ⟨W, w0, ws, step, fin⟩ := h1 p mp
  have own0 : Own G (mset M1 p (.lst [])) (upd H1 p (.lst [])) := o1.newOwn hp (by simp [pureL]) IsL.nil
  refine ⟨fun i m H' => m = j.its.length - i ∧ i ≤ j.its.length ∧ ∃ acc M', Own G (mset M' p (.lst acc)) H' ∧ Ext M1 (mset M' p (.lst acc)) H1 H' ∧ W i acc M', ⟨j.its.length, by simp, Nat.zero_le _, [], M1, own0, Ext.newOwn hp, w0⟩, ?_⟩
  rintro i m H' ⟨rfl, hi, acc, M', oM, eM, wi'⟩
  obtain ⟨mp', hz, hst⟩ := ws i acc M' wi'
  obtain ⟨go, stop⟩ := ir _ H' eM oM hst i
  by_cases hlt : i < j.its.length
  · have hd : j.its[i]? = some j.its[i] := by simp [hlt]
    obtain ⟨g1, y1⟩ := go _ hd
    refine .inr ⟨g1, fun H2 => ∃ acc M', Own G (mset M' p (.lst acc)) H2 ∧ Ext M1 (mset M' p (.lst acc)) H1 H2 ∧ W (i + 1) acc M', fun H2 q => ⟨j.its.length - (i + 1), by omega, rfl, hlt, q⟩, fun x H2 hy => ?_⟩
    obtain ⟨o2, i2, e2⟩ := y1 x H2 hy
    have x2 := eM.trans e2
    refine ⟨j.its[i], gwipe γ vs, mset M' p (.lst acc), _, ⟨((r.sl.ext (e1.trans x2)).wipe vs), o2⟩, i2, step i acc M' _ wi' hd, fun γ3 M3 σ3 H3 r3 e3 w3 h3 => ⟨w3.trans wipe_wipe, ?_⟩⟩
    refine ⟨γ3, M3, _, r3, h3, fun b M4 H4 o4 e4 h4 => ?_⟩
    cases b with
    | true =>
      rw [if_pos rfl]
      refine ⟨γ3, M4, _, r3.mk' e4 o4, h4.1 rfl, fun y M5 v H5 o5 i5 e5 h5 => ?_⟩
      obtain ⟨pu, M6, eq, w6⟩ := h5
      subst eq
      obtain ⟨pa, xs, hx, hl⟩ := o5 p (.lst acc) mset_same
      refine ⟨xs, hx, by rw [← hl.len]; exact hz, acc ++ [y], M6, ?_, ?_, w6⟩
      · have q := o5.put (p := p) (ds := acc ++ [y]) (xs := xs ++ [v]) (by rw [mset_same]; rfl) (pureL_append pa (by simp [pureL, pu])) (hl.append (IsL.cons i5 IsL.nil))
        rw [mset_set] at q
        exact q
      · have q := ((x2.trans e3).trans (e4.trans e5)).trans (Ext.put (p := p) (o := .lst (xs ++ [v])) (m := .lst (acc ++ [y])) (by rw [mset_same]; rfl))
        rw [mset_set] at q
        exact q
    | false =>
      rw [if_neg Bool.false_ne_true]
      obtain ⟨M6, eq, w6⟩ := h4.2 rfl
      subst eq
      exact ⟨acc, M6, o4, (x2.trans e3).trans e4, w6⟩
  · have en : i = j.its.length := by omega
    subst en
    refine .inl ⟨stop (Nat.le_refl _), ?_⟩
    obtain ⟨pa, xs, hx, hl⟩ := oM p (.lst acc) mset_same
    have sub : Sub M' (mset M' p (.lst acc)) := Sub.set mp'
    have xx := e1.trans eM
    refine k (.lst acc) M' (.ref p) H' (oM.sub sub) ?_ (xx.sub sub fun a ha => ?_) (fin acc M' wi')
    · unfold Is
      exact ⟨p, xs, rfl, mp', hx, IsL.sub (fun b hb => sub.non hb) acc xs pa hl⟩
    · have q := xx.ow a ha
      by_cases hap : a = p
      · subst hap
        have z := e1.ow a ha
        rw [mp] at z; cases z
      · rw [mset_ne hap] at q; exact q
theorem q_lc {elt tg iter : Expr} {ifs : List Expr} {scope : Scope} {own : List (Str × Nat)} {w : DI} {g : DG} {t : DT} {ve : DE} (hN : X.N.Nodup) (hi : QI X C tg iter w) (ok : BlkOk X.N X.env.scope scope own)
    (hg : ∀ (s : Shared) (H : Hp) (a : Addr) (cl : List (Str × Addr)) (fp : List Addr), QGW (X.blk s H scope (compEnvC scope cl a X.env) fp) C tg g (own.map (·.2))) (ht : ∀ (s : Shared) (H : Hp) (a : Addr) (cl : List (Str × Addr)) (fp : List Addr), QTs (X.blk s H scope (compEnvC scope cl a X.env) fp) C ifs t)
    (he : ∀ (s : Shared) (H : Hp) (a : Addr) (cl : List (Str × Addr)) (fp : List Addr), QE (X.blk s H scope (compEnvC scope cl a X.env) fp) C elt ve) (hc : X.calm = true := by rfl) (hs : ∀ x, foldedSetIterable iter X.env x = pure x := by intro _; rfl) :
    QE X C (.ListComp elt [⟨tg, iter, ifs, 0⟩] scope pos) (vLc w g t ve (own.map (·.2))) := by
  obtain ⟨wi, pi, si⟩ := hi.ex
  exact ⟨_, pe_lc hc hN pi ok (fun s H a cl fp => (hg s H a cl fp).lift) (fun s H a cl fp => (ht s H a cl fp).lift) (fun s H a cl fp => (he s H a cl fp).lift) hs, snd_lc si⟩
theorem qs_setLc {i : Nat} {y : Str} {py spos : Pos} {elt tg iter : Expr} {ifs : List Expr} {scope : Scope} {own : List (Str × Nat)} {w : DI} {g : DG} {t : DT} {ve : DE} (hN : X.N.Nodup) (hi : QI X C tg iter w) (ok : BlkOk X.N X.env.scope scope own)
    (hg : ∀ (s : Shared) (H : Hp) (a : Addr) (cl : List (Str × Addr)) (fp : List Addr), QGW (X.blk s H scope (compEnvC scope cl a X.env) fp) C tg g (own.map (·.2))) (ht : ∀ (s : Shared) (H : Hp) (a : Addr) (cl : List (Str × Addr)) (fp : List Addr), QTs (X.blk s H scope (compEnvC scope cl a X.env) fp) C ifs t)
    (he : ∀ (s : Shared) (H : Hp) (a : Addr) (cl : List (Str × Addr)) (fp : List Addr), QE (X.blk s H scope (compEnvC scope cl a X.env) fp) C elt ve) (hsw : swapsWith (.ListComp elt [⟨tg, iter, ifs, 0⟩] scope pos) (some (.Name y py)) spos.line X.env = pure true) (hy : X.N[i]? = some y := by rfl) (hyl : X.env.scope.names.lookup y = some .local := by rfl) (hc : X.calm = true := by rfl) (hs : ∀ x, foldedSetIterable iter X.env x = pure x := by intro _; rfl) :
    QS X C (.Assign [.Name y py] (.ListComp elt [⟨tg, iter, ifs, 0⟩] scope pos) spos) (vAsg (vLc w g t ve (own.map (·.2))) (dName i)) := by
  obtain ⟨wi, pi, si⟩ := hi.ex
  exact ⟨_, ps_setLc hc hN hy hyl hsw pi ok (fun s H a cl fp => (hg s H a cl fp).lift) (fun s H a cl fp => (ht s H a cl fp).lift) (fun s H a cl fp => (he s H a cl fp).lift) hs, snd_asg (snd_lc si) sndG_name⟩
end
section
variable {X : Cx} {C : Addr} {o e : Expr} {vo ve : DE} {pos apos : Pos}
def lstAt (M : Mem) (a : Addr) : Bool := match M a with
  | some (.lst _) => true
  | _ => false
theorem lstAt_of {M : Mem} {a : Addr} {ds : List D} (h : M a = some (.lst ds)) : lstAt M a = true := by unfold lstAt; rw [h]
theorem lstAt_set {M : Mem} {a : Addr} {ds : List D} : lstAt (mset M a (.lst ds)) a = true := lstAt_of mset_same
def vAppend (o e : DE) : DE := fun γ M R => o γ M fun od M1 => match od with
  | .own a => lstAt M1 a = true ∧ e γ M1 fun d M2 => (match M2 a with
    | some (.lst ds) => pureD d = true ∧ ds.length < sizeLine ∧ R .non (mset M2 a (.lst (ds ++ [d])))
    | _ => False)
  | _ => False
theorem own_list {G : Gx} {M : Mem} {H : Hp} {a : Addr} (o : Own G M H) (h : lstAt M a = true) : ∃ ds xs, M a = some (.lst ds) ∧ pureL ds = true ∧ H a = some (.lst xs) ∧ IsL G M H ds xs := by
  unfold lstAt at h
  split at h
  · rename_i ds q
    obtain ⟨pu, xs, ha, hl⟩ := o a _ q
    exact ⟨ds, xs, q, pu, ha, hl⟩
  · cases h
theorem q_append (ho : QE X C o vo) (he : QE X C e ve) (hpe : ∀ {to te : TE}, PE X o to → PE X e te → PE X (.Call (.Attribute o "append" apos) [e] [] pos) (tBM X.K "list" rAppend to (tCons te tNil)) := by exact fun h1 h2 => pe_bm PySem.F.plainAttrs_list PySem.F.slot_list_append PySem.F.type_list_append mt_append h1 (pa_cons h2 pa_nil)) : QE X C (.Call (.Attribute o "append" apos) [e] [] pos) (vAppend vo ve) := by
  obtain ⟨to, po, so⟩ := ho.ex
  obtain ⟨te, pe, se⟩ := he.ex
  refine ⟨_, hpe po pe, fun γ M R σ H Q r h k => so γ M _ σ H _ r h fun od M1 x H1 o1 i1 e1 h1 => ?_⟩
  cases od with
  | own a =>
    have j1 := i1
    unfold Is at j1
    obtain ⟨hq, h1⟩ := h1
    obtain ⟨ds, xs, q, pu, ha, hl⟩ := own_list o1 hq
    rw [j1.1]
    refine ⟨.inl ⟨rfl, xs, SqL.of ha⟩, se γ M1 _ σ H1 _ (r.mk' e1 o1) h1 fun d M2 y H2 o2 i2 e2 h2 => ?_⟩
    have j2 := Is.ext e2 _ _ i1
    unfold Is at j2
    have hq2 : lstAt M2 a = true := by
      split at h2
      · rename_i q; exact lstAt_of q
      · exact h2.elim
    obtain ⟨ds2, xs2, q2, pu2, ha2, hl2⟩ := own_list o2 hq2
    simp only [q2] at h2
    refine ⟨a, xs2, y, rfl, rfl, ha2, by rw [← hl2.len]; exact h2.2.1, ?_⟩
    exact k .non (mset M2 a (.lst (ds2 ++ [d]))) .non _ (o2.put j2.2 (pureL_append pu2 (by simp [pureL, h2.1])) (hl2.append (IsL.cons i2 IsL.nil))) is_non ((e1.trans e2).trans (Ext.put j2.2)) h2.2.2
  | _ => exact False.elim h1
end
def st0 : Nat → List D → Gm
  | 0, _ => []
  | n + 1, [] => none :: st0 n []
  | n + 1, d :: ds => some d :: st0 n ds
theorem st0_rel {G : Gx} {M : Mem} {H : Hp} : ∀ {n : Nat} {ds : List D} {vs : List V}, IsL G M H ds vs → ds.length ≤ n → SlR G M H (st0 n ds) (vs.map some ++ List.replicate (n - vs.length) none)
  | 0, [], [], _, _ => trivial
  | 0, _ :: _, _, _, h => by simp at h
  | _, [], _ :: _, h, _ => by unfold IsL at h; exact h.elim
  | _, _ :: _, [], h, _ => by unfold IsL at h; exact h.elim
  | n + 1, [], [], h, _ => by
    show SlR G M H (none :: st0 n []) (none :: List.replicate n none)
    have q := st0_rel (n := n) (ds := []) (vs := []) h (Nat.zero_le _)
    exact q
  | n + 1, d :: ds, v :: vs, h, hl => by
    unfold IsL at h
    have e : n + 1 - (v :: vs).length = n - vs.length := by simp
    show SlR G M H (some d :: st0 n ds) (some v :: (vs.map some ++ List.replicate (n + 1 - (v :: vs).length) none))
    rw [e]
    exact ⟨⟨v, rfl, h.1⟩, st0_rel h.2 (by simpa using hl)⟩
def FrzD (M' M2 : Mem) (d e : D) : Prop := (pureD d = true ∧ e = d) ∨ (∃ p ds, d = .own p ∧ M' p = some (.lst ds) ∧ M2 p = none ∧ e = .lst ds) ∨ ∃ p, d = .own p ∧ e = .own p ∧ (M2 p).isSome = true
def FrzL (M' M2 : Mem) : List D → List D → Prop
  | [], [] => True
  | d :: ds, e :: es => FrzD M' M2 d e ∧ FrzL M' M2 ds es
  | _, _ => False
def fin (M : Mem) (R : DR) : DR := fun d M' => ∃ d2 M2, Sub M2 M' ∧ (∀ a, (M a).isSome = true → (M2 a).isSome = true) ∧
  ((d2 = d ∧ (pureD d = true ∨ ∃ p, d = .own p ∧ (M2 p).isSome = true)) ∨ (∃ p ds, d = .own p ∧ M' p = some (.lst ds) ∧ M2 p = none ∧ d2 = .lst ds) ∨
  (∃ ds es, ((d = .tup ds ∧ d2 = .tup es) ∨ (d = .lst ds ∧ d2 = .lst es)) ∧ FrzL M' M2 ds es)) ∧ R d2 M2
theorem fin_pure {M : Mem} {R : DR} {d : D} (h : R d M) (p : pureD d = true := by rfl) : fin M R d M := ⟨d, M, Sub.refl, fun _ h => h, .inl ⟨rfl, .inl p⟩, h⟩
theorem fin_to {M M' : Mem} {R : DR} {d : D} (M2 : Mem) (s : Sub M2 M') (dm : ∀ a, (M a).isSome = true → (M2 a).isSome = true) (h : R d M2) (p : pureD d = true := by rfl) : fin M R d M' := ⟨d, M2, s, dm, .inl ⟨rfl, .inl p⟩, h⟩
theorem dom_set {M : Mem} {a : Addr} {m : MO} : ∀ b, (M b).isSome = true → (mset M a m b).isSome = true := fun b h => by
  unfold mset; split
  · rfl
  · exact h
theorem fin_drop {M : Mem} {R : DR} {d : D} {q : Addr} {m : MO} (hq : M q = none) (h : R d M) (p : pureD d = true := by rfl) : fin M R d (mset M q m) := ⟨d, M, Sub.set hq, fun _ h => h, .inl ⟨rfl, .inl p⟩, h⟩
theorem fin_own {M : Mem} {R : DR} {q : Addr} {m : MO} (h : R (.own q) (mset M q m)) : fin M R (.own q) (mset M q m) := ⟨.own q, _, Sub.refl, dom_set, .inl ⟨rfl, .inr ⟨q, rfl, by rw [mset_same]; rfl⟩⟩, h⟩
theorem fin_frz2 {M : Mem} {R : DR} {p q : Addr} {ds es : List D} (hp : M p = none) (hq : M q = none) (hpq : p ≠ q) (h : R (.tup [.lst ds, .lst es]) M) : fin M R (.tup [.own p, .own q]) (mset (mset M p (.lst ds)) q (.lst es)) :=
  ⟨_, M, fun a m e => by rw [mset_ne (fun z => by rw [z, hq] at e; cases e), mset_ne (fun z => by rw [z, hp] at e; cases e)]; exact e, fun _ h => h, .inr (.inr ⟨[.own p, .own q], [.lst ds, .lst es], .inl ⟨rfl, rfl⟩, And.intro (.inr (.inl ⟨p, ds, rfl, by rw [mset_ne hpq, mset_same], hp, rfl⟩)) (And.intro (.inr (.inl ⟨q, es, rfl, mset_same, hq, rfl⟩)) trivial)⟩), h⟩
theorem fin_own2 {M M' : Mem} {R : DR} {q : Addr} {x : D} (M2 : Mem) (s : Sub M2 M') (dm : ∀ a, (M a).isSome = true → (M2 a).isSome = true) (hq : (M2 q).isSome = true) (px : pureD x = true) (h : R (.tup [.own q, x]) M2) : fin M R (.tup [.own q, x]) M' :=
  ⟨_, M2, s, dm, .inr (.inr ⟨[.own q, x], [.own q, x], .inl ⟨rfl, rfl⟩, And.intro (.inr (.inr ⟨q, rfl, rfl, hq⟩)) (And.intro (.inl ⟨px, rfl⟩) trivial)⟩), h⟩
def fEnds (M : Mem) (R : DR) : DEnds := { nx := fun _ M' => fin M R .non M', rt := fin M R }
theorem fin_ok {G : Gx} {M M' : Mem} {R : DR} {d : D} {x : V} {H H' : Hp} {Q : VK} (o : Own G M' H') (i : Is G M' H' d x) (e : Ext M M' H H') (h : fin M R d M')
    (k : ∀ d M' x H', Own G M' H' → Is G M' H' d x → Ext M M' H H' → R d M' → Q x H') : Q x H' := by
  obtain ⟨d2, M2, sb, dm, c, hr⟩ := h
  refine k d2 M2 x H' (o.sub sb) ?_ (e.sub sb dm) hr
  rcases c with ⟨rfl, pu | ⟨p, rfl, hp⟩⟩ | ⟨p, ds, rfl, hm, hn, rfl⟩ | ⟨ds, es, eq, fz⟩
  · exact Is.sub (fun a ha => sb.non ha) _ _ pu i
  · unfold Is at i ⊢
    exact ⟨i.1, hp⟩
  · unfold Is at i
    obtain ⟨pu, xs, ha, hl⟩ := o p _ hm
    unfold Is
    exact ⟨p, xs, i.1, hn, ha, IsL.sub (fun a ha => sb.non ha) ds xs pu hl⟩
  · have st : ∀ {p : Addr} {ds : List D} {v : V}, M' p = some (.lst ds) → M2 p = none → Is G M' H' (.own p) v → Is G M2 H' (.lst ds) v := fun {p ds v} hm hn i => by
      unfold Is at i
      obtain ⟨pu, xs, ha, hl⟩ := o p _ hm
      unfold Is
      exact ⟨p, xs, i.1, hn, ha, IsL.sub (fun a ha => sb.non ha) ds xs pu hl⟩
    have stD : ∀ {d e : D} {v : V}, FrzD M' M2 d e → Is G M' H' d v → Is G M2 H' e v := fun {d e v} fz i => by
      rcases fz with ⟨pu, rfl⟩ | ⟨p, ds, rfl, hm, hn, rfl⟩ | ⟨p, rfl, rfl, hp⟩
      · exact Is.sub (fun a ha => sb.non ha) _ _ pu i
      · exact st hm hn i
      · unfold Is at i ⊢
        exact ⟨i.1, hp⟩
    have stL : ∀ (ds es : List D) (vs : List V), FrzL M' M2 ds es → IsL G M' H' ds vs → IsL G M2 H' es vs := fun ds => by
      induction ds with
      | nil =>
        intro es vs fz hl
        match es, vs, fz, hl with
        | [], [], _, _ => exact IsL.nil
        | [], _ :: _, _, hl => unfold IsL at hl; exact hl.elim
        | _ :: _, _, fz, _ => exact fz.elim
      | cons d ds ih =>
        intro es vs fz hl
        match es, vs, fz, hl with
        | [], _, fz, _ => exact fz.elim
        | e :: es, [], _, hl => unfold IsL at hl; exact hl.elim
        | e :: es, v :: vs, fz, hl =>
          unfold IsL at hl
          exact IsL.cons (stD fz.1 hl.1) (ih es vs fz.2 hl.2)
    rcases eq with ⟨rfl, rfl⟩ | ⟨rfl, rfl⟩
    · unfold Is at i
      obtain ⟨a, vs, ev, hn3, ha, hl⟩ := i
      unfold Is
      exact ⟨a, vs, ev, sb.non hn3, ha, stL _ _ _ fz hl⟩
    · unfold Is at i
      obtain ⟨a, vs, ev, hn3, ha, hl⟩ := i
      unfold Is
      exact ⟨a, vs, ev, sb.non hn3, ha, stL _ _ _ fz hl⟩
section
variable {P : Program} {w : World} {K : PySem.W.Frag} {mg : Str → Option Value} {base : Heap} {x qual : Str} {params : Arguments} {body : List Stmt} {scope : Scope} {dvs : List V} {kws : List (Str × V)} {f : Addr} {fd : FuncData}
theorem fn_ok {N ps : List Str} {k : Nat} {C : Addr} {S : DSp} {v : DS} (n m : Nat) (F : FunD K x qual params body scope dvs kws f fd) (SC : FnScope N ps scope)
    (hq : ∀ (cdv : Value) (A : Around) (outer : List Env) (s : Shared) (H : Hp) (E : XK), Room k (A.deeper (PyProof.Rows.envOfC qual scope s.heap.objs.size f cdv)) → QSs (cxOf CX0 P w K mg base N qual scope f cdv A outer s H E).nox C body v)
    (hv : ∀ ds M R, ds.length = m → S ds M R noX → v (fEnds M R) (st0 n ds) M) (hn : N.length = n := by rfl) (hm : ps.length = m := by rfl) : FnOk P w K mg base CX0 (k + 1) f fd ps (spD ⟨K, C⟩ m S) := by
  subst hn; subst hm
  have hpl : ps.length ≤ N.length := by have := congrArg List.length SC.pre; rw [List.length_take] at this; omega
  refine F.ok SC (fun vs H Q E h => ?_) (fun cdv A outer s H vs Q E hr h => ?_)
  · obtain ⟨ds, M, R, hl, il, _⟩ := h
    rw [← il.len]; exact hl
  · obtain ⟨ds, M, R, hl, il, ow, hs, k2⟩ := h
    obtain ⟨t, pt, st⟩ := (hq cdv A outer s H E hr).ex
    refine ⟨t, pt.nox, st (fEnds M R) (st0 N.length ds) M _ H _ ⟨st0_rel il (by omega), ow⟩ ⟨?_, ?_, ?_, ?_, ?_⟩ (hv ds M R hl hs)⟩
    · intro γ M' σ H' r' e' h'
      exact fin_ok r'.ow is_non e' h' k2
    · intro d M' y H' o' i' e' h'
      exact fin_ok o' i' e' h' k2
    · intro _ _ _ _ _ _ h'; exact h'.elim
    · intro _ _ _ _ _ _ h'; exact h'.elim
    · intro _ _ _ _ _ _ _ _ _ _ h'; exact h'.elim
end
end Dl
namespace Dl
open PySem L2
structure CallOk (P : Program) (w : World) (K : PySem.W.Frag) (mg : Str → Option Value) (base : Heap) (C : Addr) (k : Nat) (x : Str) (n : Nat) (S : DSp) (dd : List D) : Prop where
  ex : ∃ (f : Addr) (fd : FuncData) (ps : List Str) (ds : List Value) (dv : List V), mg x = some (.ref f) ∧ PySem.W.keepIn K (.ref f) = true ∧ FnOk P w K mg base CX0 k f fd ps (spD ⟨K, C⟩ n S) ∧ Binds K fd ps ds ∧ Vals dv ds ∧ constL dd = some dv
structure KCallOk (P : Program) (w : World) (K : PySem.W.Frag) (mg : Str → Option Value) (base : Heap) (C : Addr) (k : Nat) (x : Str) (n : Nat) (S : DSp) (np : Nat) (ks : List Str) (pick : List D → List D → List D) : Prop where
  ex : ∃ (f : Addr) (fd : FuncData) (ps : List Str) (g : List Value → List Value → List Value) (gV : List V → List V → List V), mg x = some (.ref f) ∧ PySem.W.keepIn K (.ref f) = true ∧ FnOk P w K mg base CX0 k f fd ps (spD ⟨K, C⟩ n S) ∧ KBn K fd ps np ks g gV ∧
    ∀ (M : Mem) (H : Hp) (ds zs : List D) (vs us : List V), IsL ⟨K, C⟩ M H ds vs → IsL ⟨K, C⟩ M H zs us → IsL ⟨K, C⟩ M H (pick ds zs) (gV vs us)
section
variable {X : Cx} {C : Addr} {k j n : Nat} {S : DSp} {dd : List D} {x : Str} {p pos : Pos} {e : Expr} {es : List Expr} {va : DA}
theorem qc (h : CallOk X.prog X.w X.K X.mg X.base C k x n S dd) (hr : Room j X.A) (hkj : k ≤ j) (ha : QA X C (e :: es) va) (hg : Gl X x := by rfl) (hdb : (x == ("__debug__" : Str)) = false := by decide) (he : starEach (e :: es) X.env = (false, eval e X.env) :: starEach es X.env := by rfl) (hpl : (backTo pos (starEach es X.env)).any (·.1) = false := by rfl) :
    QE X C (.Call (.Name x p) (e :: es) [] pos) (vCall n S dd va) := by
  obtain ⟨f, fd, ps, ds, dv, h1, h2, h3, h4, h5, h6⟩ := h.ex
  exact q_call h3 (hr.mono hkj) h1 h2 h4 h5 h6 ha hg hdb he hpl
end
section
variable {P : Program} {w : World} {K : PySem.W.Frag} {mg : Str → Option Value} {base : Heap} {C : Addr} {k n : Nat} {S : DSp} {x qual : Str} {params : Arguments} {body : List Stmt} {scope : Scope} {dvs : List V} {kws : List (Str × V)} {f : Addr} {fd : FuncData} {ps : List Str}
theorem call_all (G : mg x = some (.ref f)) (F : FunD K x qual params body scope [] kws f fd) (ok : FnOk P w K mg base CX0 k f fd ps (spD ⟨K, C⟩ n S))
    (h : ∀ (kV doc pm : Value) (an : Option Addr) (cdv ct : Value) (us : List Value), us.length = ps.length → bindArgs (PySem.W.fnOf x qual params body scope .none kV doc pm an cdv ct) ⟨us, []⟩ = pure (ps.zip us)) : CallOk P w K mg base C k x n S [] :=
  ⟨f, fd, ps, [], [], G, F.kp, ok, F.bindsN h, .nil, rfl⟩
theorem call_dfl (dd : List D) (m j : Nat) (G : mg x = some (.ref f)) (F : FunD K x qual params body scope dvs kws f fd) (ok : FnOk P w K mg base CX0 k f fd ps (spD ⟨K, C⟩ n S)) (hd : dvs ≠ []) (hn : m + (dvs.length - j) = ps.length) (hdd : constL dd = some (dvs.drop j))
    (h : ∀ (T : Addr) (kV doc pm : Value) (an : Option Addr) (cdv ct : Value) (us its : List Value), us.length = m → its.length = dvs.length →
      ∃ k, bindArgs (PySem.W.fnOf x qual params body scope (.ref T) kV doc pm an cdv ct) ⟨us, []⟩ = seqItems? (.ref T) >>= k ∧ k (some its.toArray) = pure (ps.zip (us ++ its.drop j))) : CallOk P w K mg base C k x n S dd := by
  obtain ⟨ds, h1, h2⟩ := F.binds1 m j hd hn h
  exact ⟨f, fd, ps, ds, _, G, F.kp, ok, h2, h1, hdd⟩
theorem call_kwd (dd : List D) (m : Nat) (G : mg x = some (.ref f)) (F : FunD K x qual params body scope [] kws f fd) (ok : FnOk P w K mg base CX0 k f fd ps (spD ⟨K, C⟩ n S)) (hk : kws ≠ []) (hn : m + kws.length = ps.length) (hdd : constL dd = some (kws.map (·.2)))
    (h : ∀ (Dd : Addr) (doc pm : Value) (an : Option Addr) (cdv ct : Value) (us ks : List Value), us.length = m → ks.length = kws.length →
      KwChain Dd ((kws.map (·.1)).zip ks) (bindArgs (PySem.W.fnOf x qual params body scope .none (.ref Dd) doc pm an cdv ct) ⟨us, []⟩) (ps.zip (us ++ ks))) : CallOk P w K mg base C k x n S dd := by
  obtain ⟨ds, h1, h2⟩ := F.binds0 m hk hn h
  exact ⟨f, fd, ps, ds, _, G, F.kp, ok, h2, h1, hdd⟩
def pickL {α : Type} (ix : List Nat) (us ws : List α) : List α := ix.filterMap fun i => (us ++ ws)[i]?
end
theorem bb_abs : bootBuiltins "abs" = some (.builtin "abs") := by decide +kernel
theorem bb_max : bootBuiltins "max" = some (.builtin "max") := by decide +kernel
theorem bb_min : bootBuiltins "min" = some (.builtin "min") := by decide +kernel
theorem bb_int : bootBuiltins "int" = some (.type "int") := by decide +kernel
theorem bb_len : bootBuiltins "len" = some (.builtin "len") := by decide +kernel
theorem bb_sum : bootBuiltins "sum" = some (.builtin "sum") := by decide +kernel
theorem bb_list : bootBuiltins "list" = some (.type "list") := by decide +kernel
theorem bb_isinstance : bootBuiltins "isinstance" = some (.builtin "isinstance") := by decide +kernel
theorem bb_bool : bootBuiltins "bool" = some (.type "bool") := by decide +kernel
theorem bb_tuple : bootBuiltins "tuple" = some (.type "tuple") := by decide +kernel
theorem bb_str : bootBuiltins "str" = some (.type "str") := by decide +kernel
def Sm (n : Nat) (x : Int) : Prop := x.natAbs < 2 ^ n
instance (n : Nat) (x : Int) : Decidable (Sm n x) := inferInstanceAs (Decidable (x.natAbs < 2 ^ n))
theorem Sm.mul {a b : Nat} {x y : Int} (hx : Sm a x) (hy : Sm b y) : Sm (a + b) (x * y) := by
  unfold Sm at *
  rw [Int.natAbs_mul, Nat.pow_add]
  exact Nat.mul_lt_mul'' hx hy
theorem Sm.mono {a b : Nat} {x : Int} (hx : Sm a x) (h : a ≤ b) : Sm b x := Nat.lt_of_lt_of_le hx (Nat.pow_le_pow_right (by decide) h)
theorem Sm.add {a : Nat} {x y : Int} (hx : Sm a x) (hy : Sm a y) : Sm (a + 1) (x + y) := by
  unfold Sm at *
  rw [Nat.pow_succ]; omega
theorem Sm.sub {a : Nat} {x y : Int} (hx : Sm a x) (hy : Sm a y) : Sm (a + 1) (x - y) := by
  unfold Sm at *
  rw [Nat.pow_succ]; omega
theorem Sm.neg {a : Nat} {x : Int} (hx : Sm a x) : Sm a (-x) := by unfold Sm at *; omega
theorem Sm.log {a : Nat} {x : Int} (h : Sm a x) (h0 : 0 < a) : x.natAbs.log2 < a := PySem.Flt.log2_lt_of h0 h
theorem Sm.bits {a : Nat} {x : Int} (h : Sm a x) : Builtin.Int.intBits x ≤ a := PyProof.Rows.intBits_le h
theorem mul_ok {a b : Nat} {x y : Int} (hx : Sm a x) (hy : Sm b y) (h : a + b ≤ 134217728) : IntMulOk x y := by
  have h1 := hx.bits
  have h2 := hy.bits
  have e : bitsLine = 134217728 := by decide
  unfold IntMulOk
  intro z
  rw [Bool.and_eq_true] at z
  have z3 := of_decide_eq_true z.2
  rw [e] at z3
  omega
theorem mul_okL {x y : Int} (hx : Sm 64 x) : IntMulOk x y := .of_left (Nat.le_trans hx.bits (Nat.le_refl _))
theorem cd_ok {a : Nat} {i j : Int} (hj : 0 < j) (h : Sm a j) (h9 : a ≤ 9000) : CD i j := ⟨hj, by
  have h' : Sm 9000 j := h.mono h9
  exact h'.log (by decide)⟩
theorem sm_of {n : Nat} {x : Int} (h1 : -(2 ^ n) < x) (h2 : x < 2 ^ n) : Sm n x := by
  unfold Sm
  have e : ((2 ^ n : Nat) : Int) = 2 ^ n := by simp
  omega
theorem Sm.lt {n : Nat} {x : Int} (h : Sm n x) : x < 2 ^ n := by
  unfold Sm at h
  have e : ((2 ^ n : Nat) : Int) = 2 ^ n := by simp
  omega
theorem Sm.gt {n : Nat} {x : Int} (h : Sm n x) : -(2 ^ n) < x := by
  unfold Sm at h
  have e : ((2 ^ n : Nat) : Int) = 2 ^ n := by simp
  omega
end Dl
namespace Dl
open PySem L2
theorem law_start {K : PySem.W.Frag} {C : Addr} {S : DSp} (hS : ∀ ns : List Int, ns.length ≤ 63 → ∀ (M : Mem) (R : DR) (X : DX), (∀ M', R (.bl true) M') → S [.scr ns] M R X) (H : Hp) (a : Addr) (ns : List Int) (hl : ns.length ≤ 63) (ho : Only H) (hs : SqL K H a (ns.map V.int)) :
    spD ⟨K, C⟩ 1 S [.ref a] H (fun v _ => v = .bl true) fun _ _ _ => False := by
  refine ⟨[.scr ns], fun _ => none, fun d _ => d = .bl true, rfl, IsL.cons ?_ IsL.nil, fun _ _ e => (nomatch e), hS ns hl _ _ _ fun _ => rfl, fun d M' x H' _ i _ e => ?_⟩
  · unfold Is
    refine ⟨a, rfl, ?_⟩
    rcases hs with (h | ⟨o, h⟩) | h
    · rcases ho a with z | ⟨o, xs, z⟩
      · rw [h] at z; cases z
      · rw [h] at z; cases z
    · exact .inl ⟨rfl, o, h⟩
    · exact .inr h
  · subst e
    unfold Is at i
    exact i
def isIntD : D → Bool
  | .int _ => true
  | _ => false
theorem cp1 : CP 10 18 := ⟨by decide, by decide +kernel⟩
theorem cp2 : CP 10 60 := ⟨by decide, by decide +kernel⟩
theorem cp3 : CP (10 ^ (60 : Int).toNat) 10 := ⟨by decide, by decide +kernel⟩
theorem cp3' : CP (10 ^ 60) 10 := ⟨by decide, by decide +kernel⟩
theorem cp4 : CP 10 12 := ⟨by decide, by decide +kernel⟩
theorem cp5 : CP 10 6 := ⟨by decide, by decide +kernel⟩
theorem cp6 : CP 10 15 := ⟨by decide, by decide +kernel⟩
theorem cp7 : CP 10 29 := ⟨by decide, by decide +kernel⟩
theorem cp8 : CP 10 9 := ⟨by decide, by decide +kernel⟩
theorem mulR {x y : Int} (h1 : -18446744073709551616 < y) (h2 : y < 18446744073709551616) : IntMulOk x y := .of_right (intBits_le_64 (Int.lt_of_le_of_lt (by decide +kernel) h1) (Int.lt_of_lt_of_le h2 (by decide +kernel)))
theorem mulL {x y : Int} (h1 : -18446744073709551616 < x) (h2 : x < 18446744073709551616) : IntMulOk x y := .of_left (intBits_le_64 (Int.lt_of_le_of_lt (by decide +kernel) h1) (Int.lt_of_lt_of_le h2 (by decide +kernel)))
theorem sm64 {x : Int} (h1 : -18446744073709551616 < x) (h2 : x < 18446744073709551616) : Sm 64 x := sm_of (Int.lt_of_le_of_lt (by decide +kernel) h1) (Int.lt_of_lt_of_le h2 (by decide +kernel))
theorem cdS {i j : Int} (h1 : 0 < j) (h2 : j < 18446744073709551616) : CD i j := cd_ok (a := 64) h1 (sm64 (by omega) h2) (by decide)
theorem intsD_take {ns : List Int} {a b : Nat} : intsD (((ns.map D.int).drop a).take b) = some ((ns.drop a).take b) := by
  rw [← List.map_drop, ← List.map_take, intsD_map]
def PurseOk (b : Int) (m : MO) : Prop := ∃ g0 g1 g2 : Int, m = .lst [.int g0, .int g1, .int g2] ∧ 0 ≤ g2 ∧ g2 ≤ b
theorem PurseOk.mono {b c : Int} {m : MO} (h : PurseOk b m) (hb : b ≤ c) : PurseOk c m := let ⟨g0, g1, g2, e, h0, h1⟩ := h; ⟨g0, g1, g2, e, h0, Int.le_trans h1 hb⟩
theorem dom_sw {M : Mem} {a : Addr} {m m' : MO} : ∀ b, (mset M a m b).isSome = true → (mset M a m' b).isSome = true := fun b h => by
  unfold mset at h ⊢
  split
  · rfl
  · rename_i e; rw [if_neg e] at h; exact h
theorem fin_sw {M : Mem} {a : Addr} {m m' : MO} {R : DR} {d : D} (h : R d (mset M a m')) (p : pureD d = true := by rfl) : fin (mset M a m) R d (mset M a m') := ⟨d, _, Sub.refl, dom_sw, .inl ⟨rfl, .inl p⟩, h⟩
theorem mset_none {M : Mem} {a p : Addr} {m : MO} (h : mset M a m p = none) : M p = none ∧ p ≠ a := by
  by_cases e : p = a
  · subst e; rw [mset_same] at h; cases h
  · rw [mset_ne e] at h; exact ⟨h, e⟩
end Dl
namespace Dl
open PySem L2
theorem e_vVar (i : Nat) (γ : Gm) (M : Mem) (R : DR) : (vVar i γ M R) = (match gt γ i with
    | some d => R d M
    | none => False) := propext Iff.rfl
theorem e_vC (d : D) (x0_ : Gm) (M : Mem) (R : DR) : (vC d x0_ M R) = (R d M) := propext Iff.rfl
theorem e_vOp (o : DO) (a b : DE) (γ : Gm) (M : Mem) (R : DR) : (vOp o a b γ M R) = (a γ M fun x M1 => b γ M1 fun y M2 => o x y M2 R) := propext Iff.rfl
theorem e_vNeg (a : DE) (γ : Gm) (M : Mem) (R : DR) : (vNeg a γ M R) = (a γ M fun d M1 => match d with
    | .int i => R (.int (-i)) M1
    | _ => False) := propext Iff.rfl
theorem e_vNil  (x0_ : Gm) (M : Mem) (R : List D → Mem → Prop) : (vNil  x0_ M R) = (R [] M) := propext Iff.rfl
theorem e_vCons (a : DE) (r : DA) (γ : Gm) (M : Mem) (R : List D → Mem → Prop) : (vCons a r γ M R) = (a γ M fun d M1 => r γ M1 fun ds M2 => R (d :: ds) M2) := propext Iff.rfl
theorem e_vTup (a : DA) (γ : Gm) (M : Mem) (R : DR) : (vTup a γ M R) = (a γ M fun ds M1 => ds.length ≤ sizeLine ∧ R (.tup ds) M1) := propext Iff.rfl
theorem e_vLst (a : DA) (γ : Gm) (M : Mem) (R : DR) : (vLst a γ M R) = (a γ M fun ds M1 => ds.length ≤ sizeLine ∧ R (.lst ds) M1) := propext Iff.rfl
theorem e_vLstO (a : DA) (γ : Gm) (M : Mem) (R : DR) : (vLstO a γ M R) = (a γ M fun ds M1 => ds.length ≤ sizeLine ∧ pureL ds = true ∧ ∀ p, M1 p = none → R (.own p) (mset M1 p (.lst ds))) := propext Iff.rfl
theorem e_vIxC (n : Nat) (a : DE) (γ : Gm) (M : Mem) (R : DR) : (vIxC n a γ M R) = (a γ M fun d M1 => match seqI M1 d with
    | some ds => (match nthD ds n with
      | some x => R x M1
      | none => False)
    | none => False) := propext Iff.rfl
theorem e_vNoPart  (x0_ : Gm) (M : Mem) (R : Option Int → Mem → Prop) : (vNoPart  x0_ M R) = (R none M) := propext Iff.rfl
theorem e_vPart (a : DE) (γ : Gm) (M : Mem) (R : Option Int → Mem → Prop) : (vPart a γ M R) = (a γ M fun d M1 => match d with
    | .int i => R (some i) M1
    | _ => False) := propext Iff.rfl
theorem e_vSl (a : DE) (l h : DPt) (γ : Gm) (M : Mem) (R : DR) : (vSl a l h γ M R) = (a γ M fun d M1 => l γ M1 fun lo M2 => h γ M2 fun hi M3 => isTup d = false ∧ match seqI M3 d with
    | some ds => R (.lst (cutD ds lo hi)) M3
    | none => False) := propext Iff.rfl
theorem e_vB (v : DE) (γ : Gm) (M : Mem) (R : Bool → Mem → Prop) : (vB v γ M R) = (v γ M fun d M1 => match d with
    | .bl b => R b M1
    | _ => False) := propext Iff.rfl
theorem e_vChain (o o' : DO) (a b c : DE) (γ : Gm) (M : Mem) (R : DR) : (vChain o o' a b c γ M R) = (a γ M fun x M1 => b γ M1 fun y M2 => o x y M2 fun z M3 => match z with
    | .bl k => (k = true → c γ M3 fun w M4 => o' y w M4 R) ∧ (k = false → R (.bl false) M3)
    | _ => False) := propext Iff.rfl
theorem e_vIsN (f : Bool → Bool) (a : DE) (γ : Gm) (M : Mem) (R : DR) : (vIsN f a γ M R) = (a γ M fun d M1 => R (.bl (f (isNon d))) M1) := propext Iff.rfl
theorem e_vAnd (a b : DT) (γ : Gm) (M : Mem) (R : Bool → Mem → Prop) : (vAnd a b γ M R) = (a γ M fun k M1 => (k = true → b γ M1 R) ∧ (k = false → R false M1)) := propext Iff.rfl
theorem e_vOr (a b : DT) (γ : Gm) (M : Mem) (R : Bool → Mem → Prop) : (vOr a b γ M R) = (a γ M fun k M1 => (k = true → R true M1) ∧ (k = false → b γ M1 R)) := propext Iff.rfl
theorem e_vNot (a : DT) (γ : Gm) (M : Mem) (R : Bool → Mem → Prop) : (vNot a γ M R) = (a γ M fun k M1 => R (!k) M1) := propext Iff.rfl
theorem e_vAndV (a b : DE) (γ : Gm) (M : Mem) (R : DR) : (vAndV a b γ M R) = (a γ M fun d M1 => match d with
    | .bl k => (k = true → b γ M1 R) ∧ (k = false → R (.bl false) M1)
    | _ => False) := propext Iff.rfl
theorem e_vNotV (a : DE) (γ : Gm) (M : Mem) (R : DR) : (vNotV a γ M R) = (a γ M fun d M1 => match d with
    | .bl k => R (.bl (!k)) M1
    | _ => False) := propext Iff.rfl
theorem e_vIte (t : DT) (a b : DE) (γ : Gm) (M : Mem) (R : DR) : (vIte t a b γ M R) = (t γ M fun k M1 => (k = true → a γ M1 R) ∧ (k = false → b γ M1 R)) := propext Iff.rfl
theorem e_vCB (o : DC) (a : DA) (γ : Gm) (M : Mem) (R : DR) : (vCB o a γ M R) = (a γ M fun ds M1 => o ds M1 R) := propext Iff.rfl
theorem e_vIsi (T : Ty) (a : DE) (γ : Gm) (M : Mem) (R : DR) : (vIsi T a γ M R) = (a γ M fun d M1 => match tyM M1 d with
    | some t => R (.bl (t.sub T)) M1
    | none => False) := propext Iff.rfl
theorem e_vBits (a : DE) (γ : Gm) (M : Mem) (R : DR) : (vBits a γ M R) = (a γ M fun d M1 => match d with
    | .int i => R (.int (Builtin.Int.intBits i : Nat)) M1
    | _ => False) := propext Iff.rfl
theorem e_vCall (n : Nat) (S : DSp) (dd : List D) (a : DA) (γ : Gm) (M : Mem) (R : DR) : (vCall n S dd a γ M R) = (a γ M fun ds M1 => (ds ++ dd).length = n ∧ S (ds ++ dd) M1 R noX) := propext Iff.rfl
theorem e_vNext  (Ed : DEnds) (γ : Gm) (M : Mem) : (vNext  Ed γ M) = (Ed.nx γ M) := propext Iff.rfl
theorem e_vSeq (a b : DS) (Ed : DEnds) (γ : Gm) (M : Mem) : (vSeq a b Ed γ M) = (a { Ed with nx := b Ed } γ M) := propext Iff.rfl
theorem e_vBreak  (Ed : DEnds) (γ : Gm) (M : Mem) : (vBreak  Ed γ M) = (Ed.bk γ M) := propext Iff.rfl
theorem e_vDrop (a : DE) (Ed : DEnds) (γ : Gm) (M : Mem) : (vDrop a Ed γ M) = (a γ M fun _ M1 => Ed.nx γ M1) := propext Iff.rfl
theorem e_vRet (a : DE) (Ed : DEnds) (γ : Gm) (M : Mem) : (vRet a Ed γ M) = (a γ M Ed.rt) := propext Iff.rfl
theorem e_vIf (c : DT) (a b : DS) (Ed : DEnds) (γ : Gm) (M : Mem) : (vIf c a b Ed γ M) = (c γ M fun k M1 => (k = true → a Ed γ M1) ∧ (k = false → b Ed γ M1)) := propext Iff.rfl
theorem e_vNever  (x0_ : DEnds) (x1_ : Gm) (x2_ : Mem) : (vNever  x0_ x1_ x2_) = (False) := propext Iff.rfl
theorem e_dName (i : Nat) (d : D) (γ : Gm) (M : Mem) (R : Gm → Mem → Prop) : (dName i d γ M R) = (R (gset γ i (some d)) M) := propext Iff.rfl
theorem e_dNil  (ds : List D) (γ : Gm) (M : Mem) (R : Gm → Mem → Prop) : (dNil  ds γ M R) = (match ds with
    | [] => R γ M
    | _ => False) := propext Iff.rfl
theorem e_dCons (g : DG) (gs : DGs) (ds : List D) (γ : Gm) (M : Mem) (R : Gm → Mem → Prop) : (dCons g gs ds γ M R) = (match ds with
    | d :: r => g d γ M fun γ' M' => gs r γ' M' R
    | [] => False) := propext Iff.rfl
theorem e_dTup (n : Nat) (gs : DGs) (d : D) (γ : Gm) (M : Mem) (R : Gm → Mem → Prop) : (dTup n gs d γ M R) = (match d with
    | .tup ds => ds.length = n ∧ gs ds γ M R
    | _ => False) := propext Iff.rfl
theorem e_dSub (o i : DE) (d : D) (γ : Gm) (M : Mem) (R : Gm → Mem → Prop) : (dSub o i d γ M R) = (o γ M fun od M1 => i γ M1 fun id M2 => match od, id with
    | .own a, .int k => (match M2 a with
      | some (.lst ds) => pureD d = true ∧ ∃ j, ixN ds.length k = some j ∧ R γ (mset M2 a (.lst (ds.set j d)))
      | _ => False)
    | _, _ => False) := propext Iff.rfl
theorem e_vAsg (a : DE) (g : DG) (Ed : DEnds) (γ : Gm) (M : Mem) : (vAsg a g Ed γ M) = (a γ M fun d M1 => g d γ M1 Ed.nx) := propext Iff.rfl
theorem e_vPar (i j : Nat) (a : DA) (Ed : DEnds) (γ : Gm) (M : Mem) : (vPar i j a Ed γ M) = (a γ M fun ds M1 => match ds with
    | [x, y] => Ed.nx (gset (gset γ i (some x)) j (some y)) M1
    | _ => False) := propext Iff.rfl
theorem e_vAug (i : Nat) (f : Int → Int → Int) (a : DE) (Ed : DEnds) (γ : Gm) (M : Mem) : (vAug i f a Ed γ M) = (match gt γ i with
    | some (.int x) => a γ M fun d M1 => (match d with
      | .int y => Ed.nx (gset γ i (some (.int (f x y)))) M1
      | _ => False)
    | _ => False) := propext Iff.rfl
theorem e_wList (a : DE) (γ : Gm) (M : Mem) (R : ItD → Mem → Prop) : (wList a γ M R) = (a γ M fun d M1 => match isTup d, seqI M1 d with
    | false, some ds => R (liD d ds) M1
    | _, _ => False) := propext Iff.rfl
theorem e_wTup (a : DE) (γ : Gm) (M : Mem) (R : ItD → Mem → Prop) : (wTup a γ M R) = (a γ M fun d M1 => match d with
    | .tup ds => R ⟨ds, fun _ => True⟩ M1
    | _ => False) := propext Iff.rfl
theorem e_wRng1 (a : DA) (γ : Gm) (M : Mem) (R : ItD → Mem → Prop) : (wRng1 a γ M R) = (a γ M fun ds M1 => match ds with
    | [.int j] => -(2 ^ 62) ≤ j ∧ j < 2 ^ 62 ∧ R ⟨rngD 0 j.toNat, fun _ => True⟩ M1
    | _ => False) := propext Iff.rfl
theorem e_vYes  (x0_ : Gm) (M : Mem) (R : Bool → Mem → Prop) : (vYes  x0_ M R) = (R true M) := propext Iff.rfl
theorem e_vAppend (o e : DE) (γ : Gm) (M : Mem) (R : DR) : (vAppend o e γ M R) = (o γ M fun od M1 => match od with
    | .own a => lstAt M1 a = true ∧ e γ M1 fun d M2 => (match M2 a with
      | some (.lst ds) => pureD d = true ∧ ds.length < sizeLine ∧ R .non (mset M2 a (.lst (ds ++ [d])))
      | _ => False)
    | _ => False) := propext Iff.rfl
theorem e_frt (M : Mem) (R : DR) : (fEnds M R).rt = fin M R := id rfl
theorem e_fnx (M : Mem) (R : DR) : (fEnds M R).nx = fun _ M2 => fin M R .non M2 := id rfl
theorem e_fbk (M : Mem) (R : DR) : (fEnds M R).bk = fun _ _ => False := id rfl
theorem e_fct (M : Mem) (R : DR) : (fEnds M R).ct = fun _ _ => False := id rfl
end Dl
namespace Dl
open PySem L2
section
variable {M : Mem} {R : DR} {i j : Int} {xs ys ds : List D} {x y : Str} {a b : Addr} {k l : Bool}
theorem f_oI {K : Int → Int → Prop} {g : Int → Int → D} : oI K g (.int i) (.int j) M R = (K i j ∧ R (g i j) M) := propext Iff.rfl
theorem f_oI0 {g : Int → Int → D} : oI0 g (.int i) (.int j) M R = R (g i j) M := propext Iff.rfl
theorem f_addI : oAdd (.int i) (.int j) M R = R (.int (i + j)) M := propext Iff.rfl
theorem f_addS : oAdd (.str x) (.str y) M R = (x.length + y.length ≤ sizeLine ∧ R (.str (x ++ y)) M) := propext Iff.rfl
theorem f_addLL : oAdd (.lst xs) (.lst ys) M R = (xs.length + ys.length ≤ sizeLine ∧ R (.lst (xs ++ ys)) M) := propext Iff.rfl
theorem f_addOL : oAdd (.own a) (.lst ys) M R = (match M a with | some (.lst xs) => xs.length + ys.length ≤ sizeLine ∧ R (.lst (xs ++ ys)) M | _ => False) := by
  cases h : M a with
  | none => simp only [oAdd, lstI, h]
  | some m => cases m <;> simp only [oAdd, lstI, h]
theorem f_addLO : oAdd (.lst xs) (.own a) M R = (match M a with | some (.lst ys) => xs.length + ys.length ≤ sizeLine ∧ R (.lst (xs ++ ys)) M | _ => False) := by
  cases h : M a with
  | none => simp only [oAdd, lstI, h]
  | some m => cases m <;> simp only [oAdd, lstI, h]
theorem f_eqI {f : Bool → Bool} : oEqG f (.int i) (.int j) M R = R (.bl (f (decide (i = j)))) M := propext Iff.rfl
theorem shaped_bl (b : Bool) : SeqAt.shaped (.bool b) = true := by cases b <;> decide +kernel
theorem shaped_non : SeqAt.shaped .none = true := by decide +kernel
theorem f_eqB {f : Bool → Bool} : oEqG f (.bl k) (.bl l) M R = R (.bl (f (k == l))) M := by
  show (SeqAt.shaped (.bool k) = true ∧ SeqAt.shaped (.bool l) = true ∧ R (.bl (f (PyData.eqv (.bool k) (.bool l)))) M) = _
  rw [shaped_bl, shaped_bl]
  simp only [true_and]
  exact propext Iff.rfl
theorem f_eqNI {f : Bool → Bool} : oEqG f .non (.int j) M R = R (.bl (f false)) M := by
  show (SeqAt.shaped .none = true ∧ SeqAt.shaped (.int j) = true ∧ R (.bl (f (PyData.eqv .none (.int j)))) M) = _
  rw [shaped_non, shaped_int]
  simp only [true_and]
  exact propext Iff.rfl
theorem f_eqIN {f : Bool → Bool} : oEqG f (.int j) .non M R = R (.bl (f false)) M := by
  show (SeqAt.shaped (.int j) = true ∧ SeqAt.shaped .none = true ∧ R (.bl (f (PyData.eqv (.int j) .none))) M) = _
  rw [shaped_non, shaped_int]
  simp only [true_and]
  exact propext Iff.rfl
theorem f_eqNN {f : Bool → Bool} : oEqG f .non .non M R = R (.bl (f true)) M := by
  show (SeqAt.shaped .none = true ∧ SeqAt.shaped .none = true ∧ R (.bl (f (PyData.eqv .none .none))) M) = _
  rw [shaped_non]
  simp only [true_and]
  exact propext Iff.rfl
theorem f_ixL : oIx (.lst xs) (.int i) M R = (∃ x, atI xs i = some x ∧ R x M) := propext Iff.rfl
theorem f_ixT : oIx (.tup xs) (.int i) M R = (∃ x, atI xs i = some x ∧ R x M) := propext Iff.rfl
theorem f_ixS {ns : List Int} : oIx (.scr ns) (.int i) M R = (∃ x, atI (ns.map D.int) i = some x ∧ R x M) := propext Iff.rfl
theorem f_ixO : oIx (.own a) (.int i) M R = (match M a with | some (.lst xs) => (∃ x, atI xs i = some x ∧ R x M) | _ => False) := by
  cases h : M a with
  | none => simp only [oIx, seqI, h]
  | some m => cases m <;> simp only [oIx, seqI, h]
theorem f_C1 {g : Int → D} : oC1 g [.int i] M R = R (g i) M := propext Iff.rfl
theorem f_C2 {g : Int → Int → D} : oC2 g [.int i, .int j] M R = R (g i j) M := propext Iff.rfl
theorem f_intI : oInt [.int i] M R = R (.int i) M := propext Iff.rfl
theorem f_intB : oInt [.bl k] M R = R (.int (if k then 1 else 0)) M := propext Iff.rfl
theorem f_lenS : oLen [.str x] M R = (x.length ≤ sizeLine ∧ R (.int x.length) M) := propext Iff.rfl
theorem f_lenL : oLen [.lst xs] M R = R (.int xs.length) M := propext Iff.rfl
theorem f_lenT : oLen [.tup xs] M R = R (.int xs.length) M := propext Iff.rfl
theorem f_lenC {ns : List Int} : oLen [.scr ns] M R = R (.int (ns.map D.int).length) M := propext Iff.rfl
theorem f_lenO : oLen [.own a] M R = (match M a with | some (.lst xs) => R (.int xs.length) M | _ => False) := by
  cases h : M a with
  | none => simp only [oLen, seqI, h]
  | some m => cases m <;> simp only [oLen, seqI, h]
theorem f_listL : oList [.lst xs] M R = R (.lst xs) M := propext Iff.rfl
theorem f_listT : oList [.tup xs] M R = R (.lst xs) M := propext Iff.rfl
theorem f_listOL : oListO [.lst xs] M R = (pureL xs = true ∧ ∀ p, M p = none → R (.own p) (mset M p (.lst xs))) := propext Iff.rfl
theorem f_listOT : oListO [.tup xs] M R = (pureL xs = true ∧ ∀ p, M p = none → R (.own p) (mset M p (.lst xs))) := propext Iff.rfl
theorem f_sumL : oSum [.lst xs] M R = (match intsD xs with | some ns => R (.int ns.sum) M | none => False) := propext Iff.rfl
theorem f_sqL : seqI M (.lst xs) = some xs := id rfl
theorem f_sqT : seqI M (.tup xs) = some xs := id rfl
theorem f_sqC {ns : List Int} : seqI M (.scr ns) = some (ns.map D.int) := id rfl
theorem f_sqO : seqI M (.own a) = (match M a with | some (.lst xs) => some xs | _ => none) := id rfl
theorem f_itL : isTup (.lst xs) = false := id rfl
theorem f_itT : isTup (.tup xs) = true := id rfl
theorem f_itC {ns : List Int} : isTup (.scr ns) = false := id rfl
theorem f_itO : isTup (.own a) = false := id rfl
theorem f_tyN : tyD .non = some .non := id rfl
theorem f_tyB : tyD (.bl k) = some .bl := id rfl
theorem f_tyI : tyD (.int i) = some .int := id rfl
theorem f_tyS : tyD (.str x) = some .str := id rfl
theorem f_tyT : tyD (.tup xs) = some .tup := id rfl
theorem f_tyL : tyD (.lst xs) = some .lst := id rfl
theorem f_tyO : tyD (.own a) = none := id rfl
theorem f_tmN : tyM M .non = some .non := id rfl
theorem f_tmB : tyM M (.bl k) = some .bl := id rfl
theorem f_tmI : tyM M (.int i) = some .int := id rfl
theorem f_tmS : tyM M (.str x) = some .str := id rfl
theorem f_tmT : tyM M (.tup xs) = some .tup := id rfl
theorem f_tmL : tyM M (.lst xs) = some .lst := id rfl
theorem f_tmD {ks : List Key} : tyM M (.dct ks xs) = some .dct := id rfl
theorem f_tmO : tyM M (.own a) = (match M a with | some (.lst _) => some .lst | some (.dct _ _) => some .dct | _ => none) := id rfl
theorem f_nN : isNon .non = true := id rfl
theorem f_nB : isNon (.bl k) = false := id rfl
theorem f_nI : isNon (.int i) = false := id rfl
theorem f_nS : isNon (.str x) = false := id rfl
theorem f_nT : isNon (.tup xs) = false := id rfl
theorem f_nL : isNon (.lst xs) = false := id rfl
theorem f_nO : isNon (.own a) = false := id rfl
theorem f_nLn {t p o : Int} : isNon (.ln t p o) = false := id rfl
theorem f_wN : isIntD .non = false := id rfl
theorem f_wB : isIntD (.bl k) = false := id rfl
theorem f_wI : isIntD (.int i) = true := id rfl
theorem f_wS : isIntD (.str x) = false := id rfl
theorem f_wT : isIntD (.tup xs) = false := id rfl
theorem f_wL : isIntD (.lst xs) = false := id rfl
theorem f_wO : isIntD (.own a) = false := id rfl
end
theorem vfor_rng1 {va : DA} {g : DG} {b : DS} {Ed : DEnds} {γ : Gm} {M : Mem} (k : Int) (hva : ∀ F : List D → Mem → Prop, F [.int k] M → va γ M F) (hk0 : -4611686018427387904 ≤ k) (hk1 : k < 4611686018427387904) (W : Nat → Gm → Mem → Prop) (h0 : W 0 γ M)
    (step : ∀ i γ' M', W i γ' M' → i < k.toNat → g (.int (i : Int)) γ' M' fun γ2 M2 => b { Ed with nx := W (i + 1), ct := W (i + 1), bk := Ed.nx } γ2 M2) (hd : ∀ γ' M', W k.toNat γ' M' → Ed.nx γ' M') : vFor (wRng1 va) g b Ed γ M :=
  hva _ ⟨hk0, hk1, W, h0, fun _ _ _ _ => trivial, fun i d γ' M' w hq => by
    obtain ⟨hlt, rfl⟩ := (rngD_get _ _ _ _).mp hq
    rw [Int.zero_add]
    exact step i γ' M' w hlt, fun γ' M' w => by
    have e : (rngD 0 k.toNat).length = k.toNat := rngD_len 0 k.toNat
    exact hd γ' M' (by rw [← e]; exact w)⟩
theorem vfor_list {ve : DE} {g : DG} {b : DS} {Ed : DEnds} {γ : Gm} {M M1 : Mem} (ds : List D) (hve : ∀ F : DR, F (.lst ds) M1 → ve γ M F) (W : Nat → Gm → Mem → Prop) (h0 : W 0 γ M1)
    (step : ∀ i d γ' M', W i γ' M' → ds[i]? = some d → g d γ' M' fun γ2 M2 => b { Ed with nx := W (i + 1), ct := W (i + 1), bk := Ed.nx } γ2 M2) (hd : ∀ γ' M', W ds.length γ' M' → Ed.nx γ' M') : vFor (wList ve) g b Ed γ M :=
  hve _ ⟨W, h0, fun _ _ _ _ => rfl, step, hd⟩
theorem vWhile_of {c : DT} {b : DS} {Ed : DEnds} {γ : Gm} {M : Mem} (W : Nat → Gm → Mem → Prop) (h0 : ∃ m, W m γ M)
    (h : ∀ m γ' M', W m γ' M' → c γ' M' fun k M1 => (k = true → b { Ed with nx := fun γ2 M2 => ∃ m2, m2 < m ∧ W m2 γ2 M2, ct := fun γ2 M2 => ∃ m2, m2 < m ∧ W m2 γ2 M2, bk := Ed.nx } γ' M1) ∧ (k = false → Ed.nx γ' M1)) : vWhile c b Ed γ M := ⟨W, h0, h⟩
end Dl
namespace Dl
open PySem L2
section
variable {X : Cx} {C : Addr} {e e2 : Expr} {ve vb : DE} {pos : Pos}
end
theorem Sub.more {M M' : Mem} {p : Addr} {m : MO} (h : Sub M M') (hp : M' p = none) : Sub M (mset M' p m) := fun a n e => Sub.set hp a n (h a n e)
theorem cut_to (xs : List D) (k : Int) (h : 0 ≤ k) : cutD xs none (some k) = xs.take k.toNat := by
  obtain ⟨k, rfl⟩ := Int.eq_ofNat_of_zero_le h
  unfold cutD
  rw [HT.sIx_none, HT.sIx_nat, Int.toNat_natCast]
  simp only [List.drop_zero, Nat.sub_zero]
  rcases Nat.le_total k xs.length with h | h
  · rw [Nat.min_eq_left h]
  · rw [Nat.min_eq_right h, List.take_of_length_le (Nat.le_refl _), List.take_of_length_le h]
theorem vfor_tup {ve : DE} {g : DG} {b : DS} {Ed : DEnds} {γ : Gm} {M M1 : Mem} (ds : List D) (hve : ∀ F : DR, F (.tup ds) M1 → ve γ M F) (W : Nat → Gm → Mem → Prop) (h0 : W 0 γ M1)
    (step : ∀ i d γ' M', W i γ' M' → ds[i]? = some d → g d γ' M' fun γ2 M2 => b { Ed with nx := W (i + 1), ct := W (i + 1), bk := Ed.nx } γ2 M2) (hd : ∀ γ' M', W ds.length γ' M' → Ed.nx γ' M') : vFor (wTup ve) g b Ed γ M :=
  hve _ ⟨W, h0, fun _ _ _ _ => trivial, step, hd⟩
end Dl
namespace Dl
open PySem L2
theorem isL3 {G : Gx} {M : Mem} {H : Hp} {d f g : D} {xs : List V} (h : IsL G M H [d, f, g] xs) : ∃ v u w, xs = [v, u, w] ∧ Is G M H d v ∧ Is G M H f u ∧ Is G M H g w := by
  match xs, h with
  | v :: r, h =>
    unfold IsL at h
    obtain ⟨u, w, e, i, j⟩ := isL2 h.2
    exact ⟨v, u, w, by rw [e], h.1, i, j⟩
section
variable {X : Cx} {C : Addr} {o e : Expr} {vo ve : DE} {pos apos : Pos}
def oSorted : DC := fun ds M R => match ds with
  | [d] => (match intsOf M d with
    | some ns => ns.length < 64 ∧ ∀ ns' : List Int, ns'.Perm ns → ns'.Pairwise (· ≤ ·) → R (.lst (ns'.map .int)) M
    | none => False)
  | _ => False
theorem e_oSorted (ds : List D) (M : Mem) (R : DR) : oSorted ds M R = (match ds with
  | [d] => (match intsOf M d with
    | some ns => ns.length < 64 ∧ ∀ ns' : List Int, ns'.Perm ns → ns'.Pairwise (· ≤ ·) → R (.lst (ns'.map .int)) M
    | none => False)
  | _ => False) := propext Iff.rfl
theorem b_sorted : BQ X C (.builtin "sorted") oSorted := ⟨_, cr_sorted, fun ds M R H xs Q o i1 h k => by
  match ds, h with
  | [d], h =>
    obtain ⟨v, e, q⟩ := isL1 i1
    unfold oSorted at h
    simp only at h
    split at h
    · rename_i ns e2
      obtain ⟨a, e3, s⟩ := ints_at o q e2
      exact ⟨a, ns, by rw [e, e3], s, h.1, fun ns' p h1 h2 hp => k _ M _ _ (o.new hp) (new_lst o hp (isL_ints ns')) (Ext.new hp) (h.2 ns' h1 h2)⟩
    · exact h.elim⟩
theorem bb_sorted : bootBuiltins "sorted" = some (.builtin "sorted") := by decide +kernel
def vPop (o : DE) : DE := fun γ M R => o γ M fun od M1 => match od with
  | .own a => (match M1 a with
    | some (.lst ds) => (match ds[ds.length - 1]? with
      | some d => R d (mset M1 a (.lst ds.dropLast))
      | none => False)
    | _ => False)
  | _ => False
theorem e_vPop (o : DE) (γ : Gm) (M : Mem) (R : DR) : vPop o γ M R = (o γ M fun od M1 => match od with
  | .own a => (match M1 a with
    | some (.lst ds) => (match ds[ds.length - 1]? with
      | some d => R d (mset M1 a (.lst ds.dropLast))
      | none => False)
    | _ => False)
  | _ => False) := propext Iff.rfl
theorem pureL_dropLast : ∀ {ds : List D}, pureL ds = true → pureL ds.dropLast = true
  | [], _ => rfl
  | [_], _ => rfl
  | d :: f :: r, h => by
    unfold pureL at h ⊢
    rw [Bool.and_eq_true] at h
    show (pureD d && pureL (f :: r).dropLast) = true
    rw [h.1, pureL_dropLast h.2]; rfl
theorem isL_dropLast {G : Gx} {M : Mem} {H : Hp} : ∀ {ds : List D} {xs : List V}, IsL G M H ds xs → IsL G M H ds.dropLast xs.dropLast
  | [], [], _ => IsL.nil
  | [], _ :: _, h => by unfold IsL at h; exact h.elim
  | _ :: _, [], h => by unfold IsL at h; exact h.elim
  | [_], [_], _ => IsL.nil
  | [_], _ :: _ :: _, h => by unfold IsL at h; have h2 := h.2; unfold IsL at h2; exact h2.elim
  | _ :: _ :: _, [_], h => by unfold IsL at h; have h2 := h.2; unfold IsL at h2; exact h2.elim
  | d :: f :: r, x :: y :: s, h => by
    unfold IsL at h
    exact IsL.cons h.1 (isL_dropLast h.2)
theorem q_pop (ho : QE X C o vo) (hpe : ∀ {to : TE}, PE X o to → PE X (.Call (.Attribute o "pop" apos) [] [] pos) (tBM X.K "list" rPop to tNil) := by exact fun h1 => pe_bm0 PySem.F.plainAttrs_list PySem.F.slot_list_pop PySem.F.type_list_pop mt_pop h1) : QE X C (.Call (.Attribute o "pop" apos) [] [] pos) (vPop vo) := by
  obtain ⟨to, po, so⟩ := ho.ex
  refine ⟨_, hpe po, fun γ M R σ H Q r h k => so γ M _ σ H _ r h fun od M1 x H1 o1 i1 e1 h1 => ?_⟩
  cases od with
  | own a =>
    have j1 := i1
    unfold Is at j1
    have hq : lstAt M1 a = true := by
      simp only at h1
      split at h1
      · rename_i q; exact lstAt_of q
      · exact h1.elim
    obtain ⟨ds, xs, q, pu, ha, hl⟩ := own_list o1 hq
    rw [j1.1]
    simp only [q] at h1
    split at h1
    · rename_i d hd
      obtain ⟨v, hv, iv⟩ := hl.get hd
      refine ⟨.inl ⟨rfl, xs, SqL.of ha⟩, a, xs, v, rfl, rfl, ha, by rw [← hl.len]; exact hv, ?_⟩
      exact k d (mset M1 a (.lst ds.dropLast)) v _ (o1.put j1.2 (pureL_dropLast pu) (isL_dropLast hl)) (Is.ext (Ext.put j1.2) _ _ iv) (e1.trans (Ext.put j1.2)) h1
    · exact h1.elim
  | _ => exact False.elim h1
end
end Dl
namespace Dl
open PySem L2
section
variable {X : Cx} {C : Addr} {e : Expr} {pos : Pos}
def enumF : Nat → List D → List D
  | _, [] => []
  | i, d :: r => .tup [.int (i : Int), d] :: enumF (i + 1) r
theorem enumF_len : ∀ (i : Nat) (ds : List D), (enumF i ds).length = ds.length
  | _, [] => rfl
  | i, d :: r => by show (enumF (i + 1) r).length + 1 = r.length + 1; rw [enumF_len (i + 1) r]
theorem enumF_get : ∀ (i j : Nat) (ds : List D) (d : D), (enumF i ds)[j]? = some d → ∃ x, ds[j]? = some x ∧ d = .tup [.int ((i + j : Nat) : Int), x]
  | _, _, [], _, h => by simp [enumF] at h
  | i, 0, x :: r, d, h => by
    refine ⟨x, rfl, ?_⟩
    have : some (D.tup [.int (i : Int), x]) = some d := h
    cases this
    rfl
  | i, j + 1, x :: r, d, h => by
    obtain ⟨y, h1, h2⟩ := enumF_get (i + 1) j r d h
    refine ⟨y, h1, ?_⟩
    rw [h2]
    have : i + 1 + j = i + (j + 1) := by omega
    rw [this]
def liE (d : D) (ds : List D) : ItD := ⟨enumF 0 ds, fun M => seqI M d = some ds⟩
def wEnum (a : DA) : DI := fun γ M R => a γ M fun es M1 => match es with
  | [d] => (match isTup d, seqI M1 d with
    | false, some ds => R (liE d ds) M1
    | _, _ => False)
  | _ => False
theorem e_wEnum (a : DA) (γ : Gm) (M : Mem) (R : ItD → Mem → Prop) : wEnum a γ M R = (a γ M fun es M1 => match es with
  | [d] => (match isTup d, seqI M1 d with
    | false, some ds => R (liE d ds) M1
    | _, _ => False)
  | _ => False) := propext Iff.rfl
theorem qi_enum {va : DA} {p tpos : Pos} {elts : List Expr} {kk : Nat} (hm : X.mg "enumerate" = none) (ha : QA X C [e] va) (hg : Gl X "enumerate" := by rfl) (hs : starEach [e] X.env = [(false, eval e X.env)] := by rfl) : QI X C (.Tuple elts kk tpos) (.Call (.Name "enumerate" p) [e] [] pos) (wEnum va) := by
  obtain ⟨t, p, s⟩ := ha.ex
  refine ⟨_, pi_enum hg hm p hs, fun γ M R σ H Q r h k => s γ M _ σ H _ r h fun es M1 zs H1 o1 i1 e1 h1 => ?_⟩
  match es, h1 with
  | [d], h1 =>
    obtain ⟨x, ez, i1⟩ := isL1 i1
    simp only at h1
    cases q : isTup d with
    | true => rw [q] at h1; exact h1.elim
    | false =>
      cases q2 : seqI M1 d with
      | none => rw [q, q2] at h1; exact h1.elim
      | some ds =>
        rw [q, q2] at h1
        obtain ⟨a, xs, ex, l, sq⟩ := seq_at o1 i1 q2
        rcases sq with ⟨_, sq⟩ | ⟨z, _⟩
        · refine ⟨a, xs, by rw [ez, ex], sq, k _ _ M1 H1 o1 e1 ?_ h1⟩
          intro M' H' x' o' st i
          obtain ⟨a', xs', ex', l', sq'⟩ := seq_at o' (Is.ext x' d x i1) st
          have ea : a' = a := by rw [ex] at ex'; cases ex'; rfl
          subst ea
          rcases sq' with ⟨_, sq'⟩ | ⟨z, _⟩
          · refine ⟨fun d' hd => ?_, fun hn => ⟨xs', sq', by rw [← l'.len]; rw [show (liE d ds).its.length = ds.length from enumF_len 0 ds] at hn; exact hn⟩⟩
            obtain ⟨d2, h2, rfl⟩ := enumF_get 0 i ds d' hd
            obtain ⟨v, hv, iv⟩ := l'.get h2
            refine ⟨⟨xs', v, sq', hv⟩, fun y H2 hy => ?_⟩
            obtain ⟨T, u, ey, hT, eH, hu⟩ := hy
            subst eH
            have eu := hu xs' sq'
            rw [hv] at eu
            cases eu
            rw [ey, Nat.zero_add]
            exact ⟨o'.new hT, new_tup o' hT (IsL.cons is_int (IsL.cons iv IsL.nil)), Ext.new hT⟩
          · rw [q] at z; cases z
        · rw [q] at z; cases z
def strsD : List D → Option (List Str)
  | [] => some []
  | .str x :: r => (strsD r).map (x :: ·)
  | _ => none
def oInG (f : Bool → Bool) : DO := fun d t M R => match d, t with
  | .str z, .tup ds => (match strsD ds with
    | some ws => (ws.all fun x => PyData.strOk x) = true ∧ PyData.strOk z = true ∧ R (.bl (f (ws.any fun x => x == z))) M
    | none => False)
  | _, _ => False
end
mutual
def cmpD : Nat → D → Bool
  | _, .non => true
  | _, .bl _ => true
  | _, .int _ => true
  | _, .str x => PyData.strOk x
  | n + 1, .tup ds => cmpL n ds
  | n + 1, .lst ds => cmpL n ds
  | _, _ => false
def cmpL : Nat → List D → Bool
  | _, [] => true
  | n, d :: ds => cmpD n d && cmpL n ds
end
mutual
theorem cmpD_ok : ∀ (n : Nat) (d : D), cmpD n d = true → ∃ p, toP d = some p ∧ p.canLay0 = true ∧ p.depth ≤ n
  | _, .non, _ => ⟨_, rfl, rfl, Nat.zero_le _⟩
  | _, .bl _, _ => ⟨_, rfl, rfl, Nat.zero_le _⟩
  | _, .int _, _ => ⟨_, rfl, rfl, Nat.zero_le _⟩
  | _, .str x, h => ⟨.str x, rfl, by unfold cmpD at h; exact h, Nat.zero_le _⟩
  | n + 1, .tup ds, h => by
    unfold cmpD at h
    obtain ⟨ps, e, c, dp⟩ := cmpL_ok n ds h
    exact ⟨.tuple ps, by unfold toP; rw [e]; rfl, c, by unfold PyData.depth; omega⟩
  | n + 1, .lst ds, h => by
    unfold cmpD at h
    obtain ⟨ps, e, c, dp⟩ := cmpL_ok n ds h
    exact ⟨.list ps, by unfold toP; rw [e]; rfl, c, by unfold PyData.depth; omega⟩
  | 0, .tup _, h => by unfold cmpD at h; cases h
  | 0, .lst _, h => by unfold cmpD at h; cases h
  | _, .scr _, h => by unfold cmpD at h; cases h
  | _, .ln _ _ _, h => by unfold cmpD at h; cases h
  | _, .own _, h => by unfold cmpD at h; cases h
theorem cmpL_ok : ∀ (n : Nat) (ds : List D), cmpL n ds = true → ∃ ps, toPL ds = some ps ∧ PyData.canLayAll0 ps = true ∧ PyData.depthAll ps ≤ n
  | _, [], _ => ⟨[], rfl, rfl, Nat.zero_le _⟩
  | n, d :: ds, h => by
    unfold cmpL at h
    rw [Bool.and_eq_true] at h
    obtain ⟨p, e, c, dp⟩ := cmpD_ok n d h.1
    obtain ⟨ps, e2, c2, dp2⟩ := cmpL_ok n ds h.2
    refine ⟨p :: ps, by unfold toPL; rw [e, e2], ?_, ?_⟩
    · unfold PyData.canLayAll0; rw [c, c2]; rfl
    · unfold PyData.depthAll; omega
end
theorem shaped_of {d : D} (h : cmpD 64 d = true) : ∃ p, toP d = some p ∧ SeqAt.shaped p = true ∧ PyData.eqv p p = true := by
  obtain ⟨p, e, c, dp⟩ := cmpD_ok 64 d h
  exact ⟨p, e, by unfold SeqAt.shaped; rw [c, decide_eq_true dp]; rfl, SeqAt.eqv_refl p c⟩
theorem toPt_pure {M : Mem} {d : D} {p : PyData} (h : toP d = some p) : toPt M d = some p := by
  cases d with
  | own a => unfold toP at h; cases h
  | _ => exact h
theorem eqG_of {f : Bool → Bool} {M : Mem} {R : DR} {d e : D} {p q : PyData} (h1 : toPt M d = some p) (h2 : toPt M e = some q) (s1 : SeqAt.shaped p = true) (s2 : SeqAt.shaped q = true) (hR : R (.bl (f (PyData.eqv p q))) M) : oEqG f d e M R := by
  unfold oEqG
  split
  · rename_i i j
    have a1 : some (PyData.int i) = some p := h1
    have a2 : some (PyData.int j) = some q := h2
    cases a1
    cases a2
    rw [← beq_dec]
    exact hR
  · rw [h1, h2]
    exact ⟨s1, s2, hR⟩
theorem eqG_self {f : Bool → Bool} {M : Mem} {R : DR} {d : D} (h : cmpD 64 d = true) (hR : R (.bl (f true)) M) : oEqG f d d M R := by
  obtain ⟨p, e, s, r⟩ := shaped_of h
  exact eqG_of (toPt_pure e) (toPt_pure e) s s (by rw [r]; exact hR)
theorem word_ok (s : String) : PyData.strOk (Str.ofString s) = true := by
  rw [Str.ofString_eq_toList]
  unfold PyData.strOk
  rw [Array.all_eq_true']
  intro n hn
  simp only [List.mem_toArray, List.mem_map] at hn
  obtain ⟨c, _, rfl⟩ := hn
  refine decide_eq_true ?_
  have h := c.valid
  have e : c.toNat = c.val.toNat := rfl
  unfold UInt32.isValidChar Nat.isValidChar at h
  omega
theorem toNat_inj {a b : Char} (h : a.toNat = b.toNat) : a = b := by
  have e : a.val.toNat = b.val.toNat := h
  exact Char.ext (UInt32.toNat_inj.mp e)
theorem map_toNat_inj : ∀ {as bs : List Char}, as.map Char.toNat = bs.map Char.toNat → as = bs
  | [], [], _ => rfl
  | [], _ :: _, h => by simp at h
  | _ :: _, [], h => by simp at h
  | a :: as, b :: bs, h => by
    simp only [List.map_cons, List.cons.injEq] at h
    rw [toNat_inj h.1, map_toNat_inj h.2]
theorem word_inj {a b : String} (h : Str.ofString a = Str.ofString b) : a = b := by
  rw [Str.ofString_eq_toList, Str.ofString_eq_toList] at h
  have h1 : (a.toList.map Char.toNat).toArray = (b.toList.map Char.toNat).toArray := Str.mk.inj h
  have h2 : a.toList.map Char.toNat = b.toList.map Char.toNat := by
    have := congrArg Array.toList h1
    exact this
  exact String.toList_inj.mp (map_toNat_inj h2)
theorem word_beq (a b : String) : (Str.ofString a == Str.ofString b) = decide (a = b) := by
  by_cases h : a = b
  · subst h; simp
  · rw [decide_eq_false h]
    exact beq_eq_false_iff_ne.mpr fun z => h (word_inj z)
theorem shaped_str {x : Str} (h : PyData.strOk x = true) : SeqAt.shaped (.str x) = true := by
  unfold SeqAt.shaped
  rw [Bool.and_eq_true]
  exact ⟨h, decide_eq_true (Nat.zero_le _)⟩
theorem f_eqW (f : Bool → Bool) (a b : String) (M : Mem) (R : DR) : oEqG f (.str (Str.ofString a)) (.str (Str.ofString b)) M R = R (.bl (f (decide (a = b)))) M := by
  refine propext ⟨fun h => ?_, fun h => ?_⟩
  · have h' : SeqAt.shaped (.str (Str.ofString a)) = true ∧ SeqAt.shaped (.str (Str.ofString b)) = true ∧ R (.bl (f (Str.ofString a == Str.ofString b))) M := h
    rw [← word_beq]
    exact h'.2.2
  · refine eqG_of (p := .str (Str.ofString a)) (q := .str (Str.ofString b)) rfl rfl (shaped_str (word_ok a)) (shaped_str (word_ok b)) ?_
    show R (.bl (f (Str.ofString a == Str.ofString b))) M
    rw [word_beq]
    exact h
theorem f_in2 (f : Bool → Bool) (z a b : String) (M : Mem) (R : DR) : oInG f (.str (Str.ofString z)) (.tup [.str (Str.ofString a), .str (Str.ofString b)]) M R = R (.bl (f (decide (a = z) || decide (b = z)))) M := by
  have e : oInG f (.str (Str.ofString z)) (.tup [.str (Str.ofString a), .str (Str.ofString b)]) M R = (([Str.ofString a, Str.ofString b].all fun x => PyData.strOk x) = true ∧ PyData.strOk (Str.ofString z) = true ∧ R (.bl (f ([Str.ofString a, Str.ofString b].any fun x => x == Str.ofString z))) M) := propext Iff.rfl
  rw [e]
  simp [word_ok, word_beq]
theorem f_in4 (f : Bool → Bool) (z a b c d : String) (M : Mem) (R : DR) : oInG f (.str (Str.ofString z)) (.tup [.str (Str.ofString a), .str (Str.ofString b), .str (Str.ofString c), .str (Str.ofString d)]) M R = R (.bl (f (decide (a = z) || (decide (b = z) || (decide (c = z) || decide (d = z)))))) M := by
  have e : oInG f (.str (Str.ofString z)) (.tup [.str (Str.ofString a), .str (Str.ofString b), .str (Str.ofString c), .str (Str.ofString d)]) M R = (([Str.ofString a, Str.ofString b, Str.ofString c, Str.ofString d].all fun x => PyData.strOk x) = true ∧ PyData.strOk (Str.ofString z) = true ∧ R (.bl (f ([Str.ofString a, Str.ofString b, Str.ofString c, Str.ofString d].any fun x => x == Str.ofString z))) M) := propext Iff.rfl
  rw [e]
  simp [word_ok, word_beq]
end Dl
namespace Dl
open PySem L2
section
variable {X : Cx} {C : Addr} {e e2 : Expr} {pos : Pos}
def oMax1 : DC := fun ds M R => match ds with
  | [d] => (match intsOf M d with
    | some ns => 0 < ns.length ∧ ∀ m, m ∈ ns → (∀ y ∈ ns, y ≤ m) → R (.int m) M
    | none => False)
  | _ => False
theorem e_oMax1 (ds : List D) (M : Mem) (R : DR) : oMax1 ds M R = (match ds with
  | [d] => (match intsOf M d with
    | some ns => 0 < ns.length ∧ ∀ m, m ∈ ns → (∀ y ∈ ns, y ≤ m) → R (.int m) M
    | none => False)
  | _ => False) := propext Iff.rfl
theorem b_max1 (hc : X.calm = true := by rfl) : BQ X C (.builtin "max") oMax1 := ⟨_, cr_max hc, fun ds M R H xs Q o i1 h k => by
  match ds, h with
  | [d], h =>
    obtain ⟨v, e, q⟩ := isL1 i1
    unfold oMax1 at h
    simp only at h
    split at h
    · rename_i ns e2
      obtain ⟨a, e3, s⟩ := ints_at o q e2
      exact ⟨a, ns, by rw [e, e3], s, h.1, fun m h1 h2 => k _ M _ H o is_int Ext.refl (h.2 m h1 h2)⟩
    · exact h.elim⟩
theorem f_intsL {M : Mem} {xs : List D} : intsOf M (.lst xs) = intsD xs := id rfl
end
theorem lc_still {j : ItD} {g : DG} {t : DT} {e : DE} {vs : List Nat} {γ : Gm} {M : Mem} {R : DR} (Pa : Nat → List D → Prop) (a0 : Pa 0 []) (hl : ∀ i acc, Pa i acc → acc.length < sizeLine) (hst : ∀ p acc, M p = none → j.st (mset M p (.lst acc)))
    (step : ∀ i acc d p, M p = none → Pa i acc → j.its[i]? = some d → g d (gwipe γ vs) (mset M p (.lst acc)) fun γ2 M2 => t γ2 M2 fun b M3 =>
      (b = true → e γ2 M3 fun y M4 => pureD y = true ∧ ∃ M5, M4 = mset M5 p (.lst acc) ∧ M5 = M ∧ Pa (i + 1) (acc ++ [y])) ∧ (b = false → ∃ M5, M3 = mset M5 p (.lst acc) ∧ M5 = M ∧ Pa (i + 1) acc))
    (hR : ∀ acc, Pa j.its.length acc → R (.lst acc) M) :
    ∀ p, M p = none → ∃ W : Nat → List D → Mem → Prop, W 0 [] M ∧
      (∀ i acc M', W i acc M' → M' p = none ∧ acc.length < sizeLine ∧ j.st (mset M' p (.lst acc))) ∧
      (∀ i acc M' d, W i acc M' → j.its[i]? = some d → g d (gwipe γ vs) (mset M' p (.lst acc)) fun γ2 M2 => t γ2 M2 fun b M3 =>
        (b = true → e γ2 M3 fun y M4 => pureD y = true ∧ ∃ M5, M4 = mset M5 p (.lst acc) ∧ W (i + 1) (acc ++ [y]) M5) ∧ (b = false → ∃ M5, M3 = mset M5 p (.lst acc) ∧ W (i + 1) acc M5)) ∧
      (∀ acc M', W j.its.length acc M' → R (.lst acc) M') := by
  intro p hp
  refine ⟨fun i acc M' => M' = M ∧ Pa i acc, ⟨rfl, a0⟩, ?_, ?_, ?_⟩
  · rintro i acc M' ⟨rfl, ha⟩
    exact ⟨hp, hl i acc ha, hst p acc hp⟩
  · rintro i acc M' d ⟨rfl, ha⟩ hd
    exact step i acc d p hp ha hd
  · rintro acc M' ⟨rfl, ha⟩
    exact hR acc ha
theorem vlc_tup {ve : DE} {g : DG} {t : DT} {e : DE} {vs : List Nat} {γ : Gm} {M M1 : Mem} {R : DR} (ds : List D) (hve : ∀ F : DR, F (.tup ds) M1 → ve γ M F) (Pa : Nat → List D → Prop) (a0 : Pa 0 []) (hl : ∀ i acc, Pa i acc → acc.length < sizeLine)
    (step : ∀ i acc d p, M1 p = none → Pa i acc → ds[i]? = some d → g d (gwipe γ vs) (mset M1 p (.lst acc)) fun γ2 M2 => t γ2 M2 fun b M3 =>
      (b = true → e γ2 M3 fun y M4 => pureD y = true ∧ ∃ M5, M4 = mset M5 p (.lst acc) ∧ M5 = M1 ∧ Pa (i + 1) (acc ++ [y])) ∧ (b = false → ∃ M5, M3 = mset M5 p (.lst acc) ∧ M5 = M1 ∧ Pa (i + 1) acc))
    (hR : ∀ acc, Pa ds.length acc → R (.lst acc) M1) : vLc (wTup ve) g t e vs γ M R :=
  hve _ (lc_still (j := ⟨ds, fun _ => True⟩) Pa a0 hl (fun _ _ _ => trivial) step hR)
theorem seqI_own {M : Mem} {a : Addr} {ds : List D} (h : M a = some (.lst ds)) : seqI M (.own a) = some ds := by
  show (match M a with | some (.lst xs) => some xs | _ => none) = _
  rw [h]
def vSeqJ (a b : DS) : DS := fun Ed γ M => ∃ J : Gm → Mem → Prop, a { Ed with nx := J } γ M ∧ ∀ γ' M', J γ' M' → b Ed γ' M'
section
variable {X : Cx} {C : Addr} {st : Stmt} {rest : List Stmt} {v u : DS}
theorem qss_cut (h1 : QS X C st v) (h2 : QSs X C rest u) : QSs X C (st :: rest) (vSeqJ v u) := by
  obtain ⟨t1, p1, s1⟩ := h1.ex
  obtain ⟨t2, p2, s2⟩ := h2.ex
  refine ⟨_, pss_cons p1 p2, fun Ed γ M σ H E r l h => ?_⟩
  obtain ⟨J, ha, hb⟩ := h
  exact s1 { Ed with nx := J } γ M σ H { E with nx := t2 E } r ⟨fun γ' M' σ' H' r' e' h' => s2 Ed γ' M' σ' H' E r' (l.ext e') (hb γ' M' h'), l.rt, l.bk, l.ct, l.xx⟩ ha
end
theorem sz1 : (1 ≤ sizeLine) = True := eq_true (by decide)
theorem sz2 : (2 ≤ sizeLine) = True := eq_true (by decide)
theorem sz3 : (3 ≤ sizeLine) = True := eq_true (by decide)
theorem sz4 : (4 ≤ sizeLine) = True := eq_true (by decide)
theorem sz5 : (5 ≤ sizeLine) = True := eq_true (by decide)
theorem sz6 : (6 ≤ sizeLine) = True := eq_true (by decide)
theorem sz7 : (7 ≤ sizeLine) = True := eq_true (by decide)
theorem sz8 : (8 ≤ sizeLine) = True := eq_true (by decide)
theorem sz9 : (9 ≤ sizeLine) = True := eq_true (by decide)
theorem sz10 : (10 ≤ sizeLine) = True := eq_true (by decide)
theorem sz11 : (11 ≤ sizeLine) = True := eq_true (by decide)
theorem sz12 : (12 ≤ sizeLine) = True := eq_true (by decide)
theorem sz13 : (13 ≤ sizeLine) = True := eq_true (by decide)
theorem sz14 : (14 ≤ sizeLine) = True := eq_true (by decide)
theorem sz15 : (15 ≤ sizeLine) = True := eq_true (by decide)
theorem sz16 : (16 ≤ sizeLine) = True := eq_true (by decide)
theorem sl0 : (0 < sizeLine) = True := eq_true (by decide)
theorem sl1 : (1 < sizeLine) = True := eq_true (by decide)
theorem sl2 : (2 < sizeLine) = True := eq_true (by decide)
theorem sl3 : (3 < sizeLine) = True := eq_true (by decide)
theorem sl4 : (4 < sizeLine) = True := eq_true (by decide)
theorem sl5 : (5 < sizeLine) = True := eq_true (by decide)
theorem sl6 : (6 < sizeLine) = True := eq_true (by decide)
theorem sl7 : (7 < sizeLine) = True := eq_true (by decide)
theorem sl8 : (8 < sizeLine) = True := eq_true (by decide)
theorem sl9 : (9 < sizeLine) = True := eq_true (by decide)
theorem sl10 : (10 < sizeLine) = True := eq_true (by decide)
theorem sl11 : (11 < sizeLine) = True := eq_true (by decide)
theorem sl12 : (12 < sizeLine) = True := eq_true (by decide)
theorem sl13 : (13 < sizeLine) = True := eq_true (by decide)
theorem sl14 : (14 < sizeLine) = True := eq_true (by decide)
theorem sl15 : (15 < sizeLine) = True := eq_true (by decide)
theorem sl16 : (16 < sizeLine) = True := eq_true (by decide)
end Dl
namespace Dl
open PySem L2
def isLn : D → Bool
  | .ln _ _ _ => true
  | _ => false
theorem ln_at {G : Gx} {M : Mem} {H : Hp} {d : D} {v : V} (h : Is G M H d v) (e : isLn d = true) : ∃ a dx q, v = .ref a ∧ H a = some (.ins G.C dx (fLine q)) := by
  cases d with
  | ln t p o =>
    unfold Is at h
    obtain ⟨a, dx, q, e1, _, ha, _⟩ := h
    exact ⟨a, dx, q, e1, ha⟩
  | _ => cases e
def vObj (n : Nat) (S : DSp) (o : DE) (a : DA) : DE := fun γ M R => o γ M fun d M1 => isLn d = true ∧ a γ M1 fun ds M2 => ds.length + 1 = n ∧ S (d :: ds) M2 R noX
theorem e_vObj (n : Nat) (S : DSp) (o : DE) (a : DA) (γ : Gm) (M : Mem) (R : DR) : vObj n S o a γ M R = (o γ M fun d M1 => isLn d = true ∧ a γ M1 fun ds M2 => ds.length + 1 = n ∧ S (d :: ds) M2 R noX) := propext Iff.rfl
theorem f_lnL {t p o : Int} : isLn (.ln t p o) = true := id rfl
structure MOk (P : Program) (w : World) (K : PySem.W.Frag) (mg : Str → Option Value) (base : Heap) (C : Addr) (k : Nat) (m : Str) (n : Nat) (S : DSp) : Prop where
  ex : ∃ (f : Addr) (fd : FuncData) (ps : List Str), Cls K C ∧ Meth K C m f ∧ (m == ("parts" : Str)) = false ∧ FnOk P w K mg base CX0 k f fd ps (spD ⟨K, C⟩ n S) ∧ Binds K fd ps []
structure POk (P : Program) (w : World) (K : PySem.W.Frag) (mg : Str → Option Value) (base : Heap) (C : Addr) (k : Nat) (f : Str) (S : DSp) : Prop where
  ex : ∃ (p g : Addr) (fd : FuncData) (ps : List Str), Cls K C ∧ PropOf K C f p g ∧ FnOk P w K mg base CX0 k g fd ps (spD ⟨K, C⟩ 1 S) ∧ Binds K fd ps []
structure COk (P : Program) (w : World) (K : PySem.W.Frag) (mg : Str → Option Value) (base : Heap) (C : Addr) (k n : Nat) (S : DSp) : Prop where
  ex : ∃ (g : Addr) (fd : FuncData) (ps : List Str), StX.CallO K C g ∧ FnOk P w K mg base CX0 k g fd ps (spD ⟨K, C⟩ n S) ∧ Binds K fd ps []
structure UOk (P : Program) (w : World) (K : PySem.W.Frag) (mg : Str → Option Value) (base : Heap) (C : Addr) (k : Nat) (m : Str) (n : Nat) (S : DSp) : Prop where
  ex : ∃ (f : Addr) (fd : FuncData) (ps : List Str), PySem.W.findIn K (.ref C) m = some (some (.ref f)) ∧ PySem.W.isFn K (.ref f) = true ∧ FnOk P w K mg base CX0 k f fd ps (spD ⟨K, C⟩ n S) ∧ Binds K fd ps []
structure BinF (K : PySem.W.Frag) (C : Addr) (op : Operator) : Prop where
  first : PySem.W.selfFirst K C = true
  r : PySem.W.findIn K (.ref C) (dunderR op.info.2) = some none
  ii : ∃ fo, PySem.W.findIn K (.type "int") (PySem.dunder op.info.2) = some fo
  ir : ∃ ro, PySem.W.findIn K (.type "int") (dunderR op.info.2) = some ro
  sub : PySem.W.subIn K (.type "int") (.ref C) = some false
section
variable {X : Cx} {C : Addr} {j k n : Nat} {S : DSp} {o e fe : Expr} {es : List Expr} {vo vf : DE} {va : DA} {m : Str} {pos apos : Pos}
theorem raw0 {P : Program} {w : World} {K : PySem.W.Frag} {mg : Str → Option Value} {base : Heap} {f : Addr} {fd : FuncData} {ps : List Str} {sp : Sp} (F : FnOk P w K mg base CX0 k f fd ps sp) (hb : Binds K fd ps []) : FnR P w K mg base CX0 k f sp :=
  (F.raw hb .nil).imp fun vs H Q E h => by rw [List.append_nil]; exact h
theorem spD_of {G : Gx} {M M1 M2 : Mem} {R : DR} {d : D} {ds : List D} {x : V} {xs : List V} {H H1 H2 : Hp} {Q : VK} (hl : ds.length + 1 = n) (i1 : Is G M1 H1 d x) (o2 : Own G M2 H2) (i2 : IsL G M2 H2 ds xs) (e1 : Ext M M1 H H1) (e2 : Ext M1 M2 H1 H2) (hs : S (d :: ds) M2 R noX)
    (k : ∀ d M' x H', Own G M' H' → Is G M' H' d x → Ext M M' H H' → R d M' → Q x H') (E : XK) : spD G n S (x :: xs) H2 Q E :=
  ⟨d :: ds, M2, R, hl, IsL.cons (Is.ext e2 d x i1) i2, o2, hs, fun d' M3 y H3 o3 i3 e3 h3 => k d' M3 y H3 o3 i3 ((e1.trans e2).trans e3) h3⟩
theorem q_prop (h : POk X.prog X.w X.K X.mg X.base C k m S) (hr : Room j X.A) (hkj : k + 1 ≤ j) (ho : QE X C o vo) (hab : attributeBase o m X.env (eval o X.env) = eval o X.env := by rfl) : QE X C (.Attribute o m pos) (vObj 1 S vo vNil) := by
  obtain ⟨p, g, fd, ps, c, hp, F, hb⟩ := h.ex
  obtain ⟨to, po, so⟩ := ho.ex
  refine ⟨_, pe_prop po c hp F (hr.mono hkj) hb .nil (E := E0) pass0 hab, fun γ M R σ H Q r h kk => so γ M _ σ H _ r h fun d M1 x H1 o1 i1 e1 h1 => ?_⟩
  obtain ⟨hd, h1⟩ := h1
  obtain ⟨a, dx, q, ex, hx⟩ := ln_at i1 hd
  refine ⟨a, dx, _, ex, hx, ?_⟩
  rw [← ex]
  exact spD_of h1.1 i1 o1 IsL.nil e1 Ext.refl h1.2 kk _
theorem q_callO (h : COk X.prog X.w X.K X.mg X.base C k n S) (hr : Room j X.A) (hkj : k ≤ j) (hf : QE X C fe vf) (ha : QA X C (e :: es) va)
    (ht : eval (.Call fe (e :: es) [] pos) X.env = (do callWith pos (← eval fe X.env) [] (backTo pos (starEach (e :: es) X.env)) (backToKw pos (keywordEach [] X.env))) := by rfl)
    (he : starEach (e :: es) X.env = (false, eval e X.env) :: starEach es X.env := by rfl) (hpl : (backTo pos (starEach es X.env)).any (·.1) = false := by rfl) : QE X C (.Call fe (e :: es) [] pos) (vObj n S vf va) := by
  obtain ⟨g, fd, ps, c, F, hb⟩ := h.ex
  obtain ⟨to, po, so⟩ := hf.ex
  obtain ⟨ta, pa, sa⟩ := ha.ex
  refine ⟨_, StX.pe_callO (E := E0) po c (raw0 F hb) (hr.mono hkj) pass0 pa ht he hpl, fun γ M R σ H Q r h kk => so γ M _ σ H _ r h fun d M1 x H1 o1 i1 e1 h1 => ?_⟩
  obtain ⟨hd, h1⟩ := h1
  obtain ⟨a, dx, q, ex, hx⟩ := ln_at i1 hd
  refine ⟨a, ex, sa γ M1 _ σ H1 _ (r.mk' e1 o1) h1 fun ds M2 xs H2 o2 i2 e2 h2 => ⟨?_, ?_⟩⟩
  · obtain ⟨a', dx', q', ex', hx'⟩ := ln_at (Is.ext e2 d x i1) hd
    have : a' = a := by rw [ex] at ex'; cases ex'; rfl
    subst this
    exact .inr ⟨dx', _, hx'⟩
  · rw [← ex]
    exact spD_of h2.1 i1 o2 i2 e1 e2 h2.2 kk _
theorem inv_fr {pins : List (Addr × Obj)} {σ : St} {H : Hp} {s : Shared} (I : Inv X pins σ H s) : ∃ m, PyProof.Rows.Fr X.base X.env.locals s.heap m := by
  obtain ⟨m, hm, _⟩ := I.loc
  exact ⟨m, hm, fun b o e => (I.bs b o e).1, Nat.le_trans I.ok.bsz I.ok.above⟩
theorem inst_at {pins : List (Addr × Obj)} {σ : St} {H : Hp} {s : Shared} {a dx : Addr} {fs : List (Str × V)} (I : Inv X pins σ H s) (ea : H a = some (.ins C dx fs)) : ∃ ox od, PySem.W.InstAt s.heap a ox C od := by
  obtain ⟨mA, O, _⟩ := ins_get I.hok ea
  obtain ⟨od, J, _⟩ := O.look
  exact ⟨_, _, J⟩
def rUnO (C : Addr) (sp : Sp) : V → Hp → VK → Prop := fun x H Q => ∃ a dx fs, x = .ref a ∧ H a = some (.ins C dx fs) ∧ sp [x] H Q E0
theorem un_negO {f : Addr} {sp : Sp} (hs : PySem.W.findIn X.K (.ref C) "__neg__" = some (some (.ref f))) (hf : PySem.W.isFn X.K (.ref f) = true) (F : FnR X.prog X.w X.K X.mg X.base CX0 k f sp) (hr : Room k X.A) : UnR X (unaryOp .USub) (rUnO C sp) := by
  intro pins s σ H x v Q I rx h
  obtain ⟨a, dx, fs, rfl, ea, hsp⟩ := h
  obtain rfl : v = Value.ref a := rx
  obtain ⟨m, Fr⟩ := inv_fr I
  obtain ⟨ox, od, J⟩ := inst_at I ea
  exact PySem.W.ksp_neg Fr I.ok.mod.kin J hs hf (wpAny_call (run_fnR (E := E0) (us := [.ref a]) (vs := [.ref a]) F hr pass0 I (.cons rfl .nil) hsp))
def vNegL (S : DSp) (a : DE) : DE := fun γ M R => a γ M fun d M1 => isLn d = true ∧ S [d] M1 R noX
theorem e_vNegL (S : DSp) (a : DE) (γ : Gm) (M : Mem) (R : DR) : vNegL S a γ M R = (a γ M fun d M1 => isLn d = true ∧ S [d] M1 R noX) := propext Iff.rfl
theorem q_negL (h : UOk X.prog X.w X.K X.mg X.base C k "__neg__" 1 S) (hr : Room j X.A) (hkj : k ≤ j) (ho : QE X C o vo) : QE X C (.UnaryOp .USub o pos) (vNegL S vo) := by
  obtain ⟨f, fd, ps, hm, hf, F, hb⟩ := h.ex
  obtain ⟨to, po, so⟩ := ho.ex
  refine ⟨_, pe_un (un_negO hm hf (raw0 F hb) (hr.mono hkj)) po, fun γ M R σ H Q r h kk => so γ M _ σ H _ r h fun d M1 x H1 o1 i1 e1 h1 => ?_⟩
  obtain ⟨a, dx, q, ex, hx⟩ := ln_at i1 h1.1
  exact ⟨a, dx, _, ex, hx, spD_of rfl i1 o1 IsL.nil e1 Ext.refl h1.2 kk _⟩
def vParts (a : DE) : DE := fun γ M R => a γ M fun d M1 => match d with
  | .ln t p o => R (.tup [.int t, .int p, .int o]) M1
  | _ => False
theorem e_vParts (a : DE) (γ : Gm) (M : Mem) (R : DR) : vParts a γ M R = (a γ M fun d M1 => match d with
  | .ln t p o => R (.tup [.int t, .int p, .int o]) M1
  | _ => False) := propext Iff.rfl
theorem q_parts (c : Cls X.K C) (n : NoAttr X.K C "parts") (ho : QE X C o vo) (hab : attributeBase o "parts" X.env (eval o X.env) = eval o X.env := by rfl) : QE X C (.Attribute o "parts" pos) (vParts vo) := by
  obtain ⟨to, po, so⟩ := ho.ex
  refine ⟨_, pe_fld po hab, fun γ M R σ H Q r h kk => so γ M _ σ H _ r h fun d M1 x H1 o1 i1 e1 h1 => ?_⟩
  cases d with
  | ln t p o =>
    have i2 := i1
    unfold Is at i2
    obtain ⟨a, dx, q, ex, ma, ha, mq, hq⟩ := i2
    refine ⟨a, C, dx, _, .ref q, ex, ha, c, n, rfl, ?_⟩
    refine kk _ M1 _ H1 o1 ?_ e1 h1
    unfold Is
    exact ⟨q, _, rfl, mq, hq, IsL.cons is_int (IsL.cons is_int (IsL.cons is_int IsL.nil))⟩
  | _ => exact False.elim h1
def spLn (C : Addr) : Sp := fun vs H Q _ => ∃ x dx t p o, vs = [.ref x, .int t, .int p, .int o] ∧ H x = some (.ins C dx []) ∧ 1 ≤ o ∧
  ∀ q H', (∀ b u, b ≠ x → H b = some u → H' b = some u) → H q = none → q ≠ x → H' x = some (.ins C dx (fLine q)) → H' q = some (.tup [.int t, .int p, .int o]) → Q .non H'
structure LMk (P : Program) (w : World) (K : PySem.W.Frag) (mg : Str → Option Value) (base : Heap) (C : Addr) (k : Nat) : Prop where
  ex : ∃ (f : Addr) (fd : FuncData) (ps : List Str), mg "Line" = some (.ref C) ∧ Mk K C f ∧ FnOk P w K mg base CX0 k f fd ps (spLn C) ∧ Binds K fd ps []
def vLine (a : DA) : DE := fun γ M R => a γ M fun ds M1 => match ds with
  | [.int t, .int p, .int o] => 1 ≤ o ∧ R (.ln t p o) M1
  | _ => False
theorem e_vLine (a : DA) (γ : Gm) (M : Mem) (R : DR) : vLine a γ M R = (a γ M fun ds M1 => match ds with
  | [.int t, .int p, .int o] => 1 ≤ o ∧ R (.ln t p o) M1
  | _ => False) := propext Iff.rfl
theorem snd_line {G : Gx} {M M1 : Mem} {R : DR} {H H1 : Hp} {Q : VK} {t p o : Int} (o1 : Own G M1 H1) (e1 : Ext M M1 H H1) (ho : 1 ≤ o) (hr : R (.ln t p o) M1) (kk : ∀ d M' x H', Own G M' H' → Is G M' H' d x → Ext M M' H H' → R d M' → Q x H') :
    ∀ x dx, H1 x = none → H1 dx = none → dx ≠ x → spLn G.C (.ref x :: ([.int t, .int p, .int o] ++ [])) (upd (upd H1 dx (.own x)) x (.ins G.C dx [])) (fun v H2 => v = .non ∧ Q (.ref x) H2) E0 := by
  intro x dx hx hdx hne
  refine ⟨x, dx, t, p, o, rfl, upd_same, ho, fun q H' keep hq hqx hx' hq' => ⟨rfl, ?_⟩⟩
  have hold : ∀ b u, H1 b = some u → H' b = some u := fun b u hb => by
    have n1 : b ≠ x := fun z => by rw [z, hx] at hb; cases hb
    have n2 : b ≠ dx := fun z => by rw [z, hdx] at hb; cases hb
    exact keep b u n1 (by rw [upd_ne n1, upd_ne n2]; exact hb)
  have hq1 : H1 q = none := by
    cases z : H1 q with
    | none => rfl
    | some u =>
      have n1 : q ≠ dx := fun y => by rw [y, hdx] at z; cases z
      rw [upd_ne hqx, upd_ne n1, z] at hq
      cases hq
  have ext : Ext M1 M1 H1 H' := ⟨fun a u m h => ⟨hold a u h, m⟩, fun _ h => h⟩
  refine kk _ M1 _ H' (o1.ext ext fun a ha => ?_) ?_ (e1.trans ext) hr
  · obtain ⟨u, hu⟩ := o1.there ha
    rw [hold a u hu, hu]
  · unfold Is
    exact ⟨x, dx, q, rfl, o1.fresh hx, hx', o1.fresh hq1, hq'⟩
theorem q_line {p : Pos} (h : LMk X.prog X.w X.K X.mg X.base C k) (hr : Room j X.A) (hkj : k + 1 ≤ j) (ha : QA X C (e :: es) va) (hg : Gl X "Line" := by rfl) (he : starEach (e :: es) X.env = (false, eval e X.env) :: starEach es X.env := by rfl) (hpl : (backTo pos (starEach es X.env)).any (·.1) = false := by rfl) :
    QE X C (.Call (.Name "Line" p) (e :: es) [] pos) (vLine va) := by
  obtain ⟨f, fd, ps, hm, mk, F, hb⟩ := h.ex
  obtain ⟨ta, pa, sa⟩ := ha.ex
  refine ⟨_, pe_make (E := E0) mk F (hr.mono hkj) hg hm hb .nil pass0 pa (by decide) he hpl, fun γ M R σ H Q r h kk => sa γ M _ σ H _ r h fun ds M1 xs H1 o1 i1 e1 h1 => ?_⟩
  match ds, h1 with
  | [.int t, .int p, .int o], h1 =>
    obtain ⟨v1, v2, v3, ev, j1, j2, j3⟩ := isL3 i1
    unfold Is at j1 j2 j3
    subst ev
    subst j1
    subst j2
    subst j3
    exact snd_line o1 e1 h1.1 h1.2 kk
end
section
variable {X : Cx} {C : Addr} {j k : Nat} {S : DSp} {o e : Expr} {vo vf : DE} {pos : Pos}
structure IsiF (K : PySem.W.Frag) (mg : Str → Option Value) (C : Addr) : Prop where
  glo : mg "Line" = some (.ref C)
  kp : PySem.W.keepIn K (.ref C) = true
  cls : Cls K C
  attr : PySem.W.findIn K (.ref C) "__class__" = some (some (.builtin "object.__class__"))
  get : PySem.W.specialIn K (.builtin "object.__class__") "__get__" = some (some (.builtin "getset_descriptor.__get__"))
  tak : PySem.W.takesIn K (.builtin "object.__class__") = some true
  top : PySem.W.mroIn K C (.type "object") = some true
  no : ∀ t : Ty, PySem.W.kitOne K (.type t.nm) (.ref C) = some false
  no2 : ∀ t : Ty, PySem.W.kitOne K (.ref C) (.type t.nm) = some false
def tyL : D → Bool
  | .ln _ _ _ => true
  | d => (tyD d).isSome
def vIsL (a : DE) : DE := fun γ M R => a γ M fun d M1 => tyL d = true ∧ R (.bl (isLn d)) M1
theorem e_vIsL (a : DE) (γ : Gm) (M : Mem) (R : DR) : vIsL a γ M R = (a γ M fun d M1 => tyL d = true ∧ R (.bl (isLn d)) M1) := propext Iff.rfl
theorem q_isL {x : Str} {p p2 : Pos} (T : IsiF X.K X.mg C) (ha : QE X C o vo) (hg : Gl X x) (hm : X.mg x = none) (hv : bootBuiltins x = some (.builtin "isinstance")) (hg2 : Gl X "Line" := by rfl) (hn : x ≠ "__name__" := by decide) (hdb : (x == ("__debug__" : Str)) = false := by decide)
    (he : starEach (o :: [.Name "Line" p2]) X.env = (false, eval o X.env) :: starEach [.Name "Line" p2] X.env := by rfl) (he2 : starEach [.Name "Line" p2] X.env = (false, eval (.Name "Line" p2) X.env) :: starEach [] X.env := by rfl) (hpl : (backTo pos (starEach [.Name "Line" p2] X.env)).any (·.1) = false := by rfl) :
    QE X C (.Call (.Name x p) [o, .Name "Line" p2] [] pos) (vIsL vo) := by
  obtain ⟨ta, pa, sa⟩ := ha.ex
  refine ⟨_, pe_callB call_isi hg hm hv (pa_cons pa (pa_cons (pe_glob (v := .ref C) hg2 T.glo rfl) pa_nil he2) he) hn hdb he hpl, fun γ M R σ H Q re h k => sa γ M _ σ H _ re h fun d M1 x1 H1 o1 i1 e1 h1 => ?_⟩
  cases d with
  | ln t q o =>
    have i2 := i1
    unfold Is at i2
    obtain ⟨a, dx, q, ex, ma, hx, mq, hq⟩ := i2
    refine ⟨x1, .ref C, .ref C, _, true, rfl, .own C, ?_, ?_, k _ M1 _ H1 o1 is_bl e1 h1.2⟩
    · rw [ex]; exact .base (.ins hx T.cls T.attr T.get T.tak T.top)
    · unfold PySem.W.kitOne; simp
  | scr _ => exact absurd h1.1 Bool.false_ne_true
  | own _ => exact absurd h1.1 Bool.false_ne_true
  | exn _ _ => exact absurd h1.1 Bool.false_ne_true
  | exn0 _ => exact absurd h1.1 Bool.false_ne_true
  | cls => exact absurd h1.1 Bool.false_ne_true
  | _ =>
    refine ⟨x1, .ref C, _, _, false, rfl, .own C, tyD_ok o1 i1 rfl, T.no _, k _ M1 _ H1 o1 is_bl e1 h1.2⟩
end
open PySem.W He in
def propG (K : PySem.W.Frag) (C : Addr) (f : Str) : Addr := match PySem.W.recIn K (He.ma K C f) "property" with
  | some (.ref g :: _) => g
  | _ => 0
def propB (K : PySem.W.Frag) (C : Addr) (f : Str) : Bool := He.eqO (PySem.W.findIn K (.ref C) f) (some (some (.ref (He.ma K C f)))) && (He.eqO (PySem.W.specialIn K (.ref (He.ma K C f)) "__get__") (some (some (.builtin "property.__get__"))) && (decide (PySem.W.takesIn K (.ref (He.ma K C f)) = some true) &&
  (match PySem.W.recIn K (He.ma K C f) "property" with
    | some (.ref _ :: _) => true
    | _ => false)))
theorem propB_ok {K : PySem.W.Frag} {C : Addr} {f : Str} (h : propB K C f = true) : PropOf K C f (He.ma K C f) (propG K C f) := by
  obtain ⟨h1, h⟩ := He.ba h
  obtain ⟨h2, h⟩ := He.ba h
  obtain ⟨h3, h4⟩ := He.ba h
  refine ⟨He.eqO_ok h1, He.eqO_ok h2, of_decide_eq_true h3, ?_⟩
  unfold propG
  split at h4
  · rename_i g rest e
    exact ⟨rest, by rw [e]⟩
  · cases h4
def opB (K : PySem.W.Frag) (C : Addr) (m : Str) : Bool := He.eqO (PySem.W.findIn K (.ref C) m) (some (some (.ref (He.ma K C m)))) && PySem.W.isFn K (.ref (He.ma K C m))
theorem opB_ok {K : PySem.W.Frag} {C : Addr} {m : Str} (h : opB K C m = true) : PySem.W.findIn K (.ref C) m = some (some (.ref (He.ma K C m))) ∧ PySem.W.isFn K (.ref (He.ma K C m)) = true := ⟨He.eqO_ok (He.ba h).1, (He.ba h).2⟩
def callB (K : PySem.W.Frag) (C : Addr) : Bool := opB K C "__call__" && PySem.W.fnIn K (He.ma K C "__call__")
theorem callB_ok {K : PySem.W.Frag} {C : Addr} (h : callB K C = true) : StX.CallO K C (He.ma K C "__call__") := ⟨(opB_ok (He.ba h).1).1, (opB_ok (He.ba h).1).2, (He.ba h).2⟩
def isiB (K : PySem.W.Frag) (C : Addr) : Bool := PySem.W.keepIn K (.ref C) && (He.eqO (PySem.W.findIn K (.ref C) "__class__") (some (some (.builtin "object.__class__"))) && (He.eqO (PySem.W.specialIn K (.builtin "object.__class__") "__get__") (some (some (.builtin "getset_descriptor.__get__"))) &&
  (decide (PySem.W.takesIn K (.builtin "object.__class__") = some true) && (decide (PySem.W.mroIn K C (.type "object") = some true) && [Ty.non, .bl, .int, .str, .tup, .lst, .dct].all fun t => decide (PySem.W.kitOne K (.type t.nm) (.ref C) = some false) && decide (PySem.W.kitOne K (.ref C) (.type t.nm) = some false)))))
theorem isiB_ok {K : PySem.W.Frag} {mg : Str → Option Value} {C : Addr} (g : mg "Line" = some (.ref C)) (c : Cls K C) (h : isiB K C = true) : IsiF K mg C := by
  obtain ⟨h1, h⟩ := He.ba h
  obtain ⟨h2, h⟩ := He.ba h
  obtain ⟨h3, h⟩ := He.ba h
  obtain ⟨h4, h⟩ := He.ba h
  obtain ⟨h5, h6⟩ := He.ba h
  exact ⟨g, h1, c, He.eqO_ok h2, He.eqO_ok h3, of_decide_eq_true h4, of_decide_eq_true h5, fun t => of_decide_eq_true (He.ba (List.all_eq_true.mp h6 t (by cases t <;> simp))).1, fun t => of_decide_eq_true (He.ba (List.all_eq_true.mp h6 t (by cases t <;> simp))).2⟩
def ob2 (ex : PySem.W.Frag → Bool) (fa : List He.Fa) (fn : List He5.DefA) (K : PySem.W.Frag) : He.AlD := ((He5.obsA fa fn K).1 && ex K, (He5.obsA fa fn K).2)
def Says2 (ex : PySem.W.Frag → Bool) (fa : List He.Fa) (fn : List He5.DefA) (K : PySem.W.Frag) : Prop := ob2 ex fa fn K = He5.valA fn
theorem Says2.both {ex : PySem.W.Frag → Bool} {fa : List He.Fa} {fn : List He5.DefA} {K : PySem.W.Frag} (c : Says2 ex fa fn K) : He5.SaysA fa fn K ∧ ex K = true := by
  have c' : ob2 ex fa fn K = He5.valA fn := c
  have h1 : ((He5.obsA fa fn K).1 && ex K) = true := congrArg (fun z : He.AlD => z.1) c'
  have h2 : (ob2 ex fa fn K).2 = (He5.valA fn).2 := congrArg (fun z : He.AlD => z.2) c'
  obtain ⟨a, b⟩ := He.ba h1
  exact ⟨Prod.ext a h2, b⟩
end Dl
namespace Dl
open PySem L2
section
variable {X : Cx} {C : Addr} {o : Expr} {vo : DE} {pos apos : Pos}
end
theorem vfor_enumS {va : DA} {g : DG} {b : DS} {Ed : DEnds} {γ : Gm} {M M1 : Mem} (d : D) (ds : List D) (hva : ∀ F : List D → Mem → Prop, F [d] M1 → va γ M F) (ht : isTup d = false) (hs : seqI M1 d = some ds) (W : Nat → Gm → Mem → Prop) (h0 : W 0 γ M1) (hst : ∀ i γ' M', W i γ' M' → seqI M' d = some ds)
    (step : ∀ i x γ' M', W i γ' M' → ds[i]? = some x → g (.tup [.int (i : Int), x]) γ' M' fun γ2 M2 => b { Ed with nx := W (i + 1), ct := W (i + 1), bk := Ed.nx } γ2 M2) (hd : ∀ γ' M', W ds.length γ' M' → Ed.nx γ' M') : vFor (wEnum va) g b Ed γ M := by
  refine hva _ ?_
  show (match isTup d, seqI M1 d with | false, some ds => _ | _, _ => False)
  rw [ht, hs]
  refine ⟨W, h0, hst, fun i x γ' M' w h => ?_, fun γ' M' w => hd γ' M' (by rw [← enumF_len 0 ds]; exact w)⟩
  obtain ⟨y, h1, rfl⟩ := enumF_get 0 i ds x h
  rw [Nat.zero_add]
  exact step i y γ' M' w h1
def LsD (M : Mem) (d : D) (ds : List D) : Prop := d = .lst ds ∨ ∃ a, d = .own a ∧ M a = some (.lst ds)
theorem LsD.seq {M : Mem} {d : D} {ds : List D} (h : LsD M d ds) : isTup d = false ∧ seqI M d = some ds ∧ tyM M d = some .lst := by
  rcases h with rfl | ⟨a, rfl, h⟩
  · exact ⟨rfl, rfl, rfl⟩
  · exact ⟨rfl, seqI_own h, by rw [f_tmO, h]⟩
theorem LsD.set {M : Mem} {d : D} {ds : List D} {p : Addr} {m : MO} (h : LsD M d ds) (hp : M p = none) : LsD (mset M p m) d ds := by
  rcases h with rfl | ⟨a, rfl, h⟩
  · exact .inl rfl
  · refine .inr ⟨a, rfl, ?_⟩
    have ne : a ≠ p := fun z => by rw [z, hp] at h; cases h
    rw [mset_ne ne]; exact h
theorem eqG_lsD {f : Bool → Bool} {M : Mem} {R : DR} {d e : D} {ds : List D} (h1 : LsD M d ds) (h2 : LsD M e ds) (h : cmpD 64 (.lst ds) = true) (hR : R (.bl (f true)) M) : oEqG f d e M R := by
  obtain ⟨p, e0, s, r⟩ := shaped_of h
  have t : ∀ d, LsD M d ds → toPt M d = some p := fun d h => by
    rcases h with rfl | ⟨a, rfl, h⟩
    · exact toPt_pure e0
    · unfold toPt; simp only [h]; exact e0
  exact eqG_of (t d h1) (t e h2) s s (by rw [r]; exact hR)
theorem lc_mf {j : ItD} {g : DG} {t : DT} {e : DE} {vs : List Nat} {γ : Gm} {M : Mem} {R : DR} (c : D → Bool) (f : D → D) (hl : j.its.length < sizeLine) (hst : ∀ p acc, M p = none → j.st (mset M p (.lst acc))) (hp : ∀ d ∈ j.its, c d = true → pureD (f d) = true)
    (step : ∀ (i : Nat) (d : D) (p : Addr) (acc : List D) (P : DR) (Q : Mem → Prop), j.its[i]? = some d → M p = none → (c d = true → P (f d) (mset M p (.lst acc))) → (c d = false → Q (mset M p (.lst acc))) →
      g d (gwipe γ vs) (mset M p (.lst acc)) fun γ2 M2 => t γ2 M2 fun b M3 => (b = true → e γ2 M3 P) ∧ (b = false → Q M3))
    (hR : R (.lst ((j.its.filter c).map f)) M) :
    ∀ p, M p = none → ∃ W : Nat → List D → Mem → Prop, W 0 [] M ∧
      (∀ i acc M', W i acc M' → M' p = none ∧ acc.length < sizeLine ∧ j.st (mset M' p (.lst acc))) ∧
      (∀ i acc M' d, W i acc M' → j.its[i]? = some d → g d (gwipe γ vs) (mset M' p (.lst acc)) fun γ2 M2 => t γ2 M2 fun b M3 =>
        (b = true → e γ2 M3 fun y M4 => pureD y = true ∧ ∃ M5, M4 = mset M5 p (.lst acc) ∧ W (i + 1) (acc ++ [y]) M5) ∧ (b = false → ∃ M5, M3 = mset M5 p (.lst acc) ∧ W (i + 1) acc M5)) ∧
      (∀ acc M', W j.its.length acc M' → R (.lst acc) M') := by
  intro p hpn
  have tk : ∀ {i : Nat} {d : D}, j.its[i]? = some d → j.its.take (i + 1) = j.its.take i ++ [d] := fun h => by rw [List.take_succ, h]; rfl
  refine ⟨fun i acc M' => M' = M ∧ acc = (((j.its.take i).filter c).map f), ⟨rfl, rfl⟩, ?_, ?_, ?_⟩
  · rintro i acc M' ⟨rfl, rfl⟩
    refine ⟨hpn, ?_, hst p _ hpn⟩
    rw [List.length_map]
    refine Nat.lt_of_le_of_lt (List.length_filter_le _ _) ?_
    rw [List.length_take]
    exact Nat.lt_of_le_of_lt (Nat.min_le_right _ _) hl
  · rintro i acc M' d ⟨rfl, rfl⟩ hd
    refine step i d p _ _ _ hd hpn (fun h => ⟨hp d (List.mem_of_getElem? hd) h, _, rfl, rfl, ?_⟩) (fun h => ⟨_, rfl, rfl, ?_⟩)
    · rw [tk hd, List.filter_append, List.map_append]; simp [List.filter_cons, h]
    · rw [tk hd, List.filter_append, List.map_append]; simp [List.filter_cons, h]
  · rintro acc M' ⟨rfl, rfl⟩
    rw [List.take_length]; exact hR
section
variable {g : DG} {t : DT} {e ve : DE} {va : DA} {vs : List Nat} {γ : Gm} {M M1 : Mem} {R : DR} (c : D → Bool) (f : D → D)
theorem mf_list (ds : List D) (hve : ∀ F : DR, F (.lst ds) M1 → ve γ M F) (hl : ds.length < sizeLine) (hp : ∀ d ∈ ds, c d = true → pureD (f d) = true)
    (step : ∀ (i : Nat) (d : D) (p : Addr) (acc : List D) (P : DR) (Q : Mem → Prop), ds[i]? = some d → M1 p = none → (c d = true → P (f d) (mset M1 p (.lst acc))) → (c d = false → Q (mset M1 p (.lst acc))) →
      g d (gwipe γ vs) (mset M1 p (.lst acc)) fun γ2 M2 => t γ2 M2 fun b M3 => (b = true → e γ2 M3 P) ∧ (b = false → Q M3))
    (hR : R (.lst ((ds.filter c).map f)) M1) : vLc (wList ve) g t e vs γ M R :=
  hve _ (lc_mf (j := liD (.lst ds) ds) c f hl (fun _ _ _ => rfl) hp step hR)
theorem mf_own (a : Addr) (ds : List D) (hve : ∀ F : DR, F (.own a) M1 → ve γ M F) (ha : M1 a = some (.lst ds)) (hl : ds.length < sizeLine) (hp : ∀ d ∈ ds, c d = true → pureD (f d) = true)
    (step : ∀ (i : Nat) (d : D) (p : Addr) (acc : List D) (P : DR) (Q : Mem → Prop), ds[i]? = some d → M1 p = none → (c d = true → P (f d) (mset M1 p (.lst acc))) → (c d = false → Q (mset M1 p (.lst acc))) →
      g d (gwipe γ vs) (mset M1 p (.lst acc)) fun γ2 M2 => t γ2 M2 fun b M3 => (b = true → e γ2 M3 P) ∧ (b = false → Q M3))
    (hR : R (.lst ((ds.filter c).map f)) M1) : vLc (wList ve) g t e vs γ M R := by
  refine hve _ ?_
  show (match false, seqI M1 (.own a) with | false, some ds => _ | _, _ => False)
  rw [seqI_own ha]
  refine lc_mf (j := liD (.own a) ds) c f hl (fun p acc hp => ?_) hp step hR
  have ne : a ≠ p := fun z => by rw [z, hp] at ha; cases ha
  exact seqI_own (by rw [mset_ne ne]; exact ha)
theorem mf_tup (ds : List D) (hve : ∀ F : DR, F (.tup ds) M1 → ve γ M F) (hl : ds.length < sizeLine) (hp : ∀ d ∈ ds, c d = true → pureD (f d) = true)
    (step : ∀ (i : Nat) (d : D) (p : Addr) (acc : List D) (P : DR) (Q : Mem → Prop), ds[i]? = some d → M1 p = none → (c d = true → P (f d) (mset M1 p (.lst acc))) → (c d = false → Q (mset M1 p (.lst acc))) →
      g d (gwipe γ vs) (mset M1 p (.lst acc)) fun γ2 M2 => t γ2 M2 fun b M3 => (b = true → e γ2 M3 P) ∧ (b = false → Q M3))
    (hR : R (.lst ((ds.filter c).map f)) M1) : vLc (wTup ve) g t e vs γ M R :=
  hve _ (lc_mf (j := ⟨ds, fun _ => True⟩) c f hl (fun _ _ _ => trivial) hp step hR)
end
theorem eqG_none {f : Bool → Bool} {M : Mem} {R : DR} {a : Addr} {ds : List D} (ha : M a = some (.lst ds)) (h : cmpD 64 (.lst ds) = true) (h0 : ds = [] → R (.bl (f true)) M) (h1 : ds ≠ [] → R (.bl (f false)) M) : oEqG f (.own a) (.lst []) M R := by
  obtain ⟨p, e, s, r⟩ := shaped_of h
  have t : toPt M (.own a) = some p := by unfold toPt; simp only [ha]; exact e
  refine eqG_of (p := p) (q := .list []) t rfl s (by decide) ?_
  cases ds with
  | nil => cases e; exact h0 rfl
  | cons d ds =>
    unfold toP at e
    cases q : toPL (d :: ds) with
    | none => rw [q] at e; cases e
    | some ps =>
      rw [q] at e
      cases e
      unfold toPL at q
      split at q
      · cases q; exact h1 (by simp)
      · cases q
end Dl
namespace Dl
open PySem L2
section
variable {X : Cx} {C : Addr} {e : Expr} {pos : Pos}
theorem IsL.reverse {G : Gx} {M : Mem} {H : Hp} : ∀ {ds : List D} {vs : List V}, IsL G M H ds vs → IsL G M H ds.reverse vs.reverse
  | [], [], h => h
  | [], _ :: _, h => by unfold IsL at h; exact h.elim
  | _ :: _, [], h => by unfold IsL at h; exact h.elim
  | d :: ds, v :: vs, h => by
    unfold IsL at h
    rw [List.reverse_cons, List.reverse_cons]
    exact (IsL.reverse h.2).append (IsL.cons h.1 IsL.nil)
def vRev (o : DE) : DE := fun γ M R => o γ M fun od M1 => match od with
  | .lst ds => R (.lst ds.reverse) M1
  | .own a => (match M1 a with
    | some (.lst ds) => R (.lst ds.reverse) M1
    | _ => False)
  | _ => False
theorem e_vRev (o : DE) (γ : Gm) (M : Mem) (R : DR) : vRev o γ M R = (o γ M fun od M1 => match od with
  | .lst ds => R (.lst ds.reverse) M1
  | .own a => (match M1 a with
    | some (.lst ds) => R (.lst ds.reverse) M1
    | _ => False)
  | _ => False) := propext Iff.rfl
theorem q_rev {vo : DE} {k : Nat} {p1 p2 p3 : Pos} (ho : QE X C e vo) : QE X C (.Subscript e (.Slice none none (some (.UnaryOp .USub (.Constant (.int 1) k p1) p2)) p3) pos) (vRev vo) := by
  obtain ⟨to, po, so⟩ := ho.ex
  refine ⟨_, pe_revL po, fun γ M R σ H Q r h k => so γ M _ σ H _ r h fun od M1 x H1 o1 i1 e1 h1 => ?_⟩
  cases od with
  | lst ds =>
    have j1 := i1
    unfold Is at j1
    obtain ⟨a, xs, ex, m, ha, hl⟩ := j1
    exact ⟨a, xs, ex, SqL.of ha, fun p hp => k _ M1 _ _ (o1.new hp) (new_lst o1 hp hl.reverse) (e1.trans (Ext.new hp)) h1⟩
  | own a =>
    have j1 := i1
    unfold Is at j1
    have hq : lstAt M1 a = true := by
      simp only at h1
      split at h1
      · rename_i q; exact lstAt_of q
      · exact h1.elim
    obtain ⟨ds, xs, q, pu, ha, hl⟩ := own_list o1 hq
    rw [j1.1]
    simp only [q] at h1
    exact ⟨a, xs, rfl, SqL.of ha, fun p hp => k _ M1 _ _ (o1.new hp) (new_lst o1 hp hl.reverse) (e1.trans (Ext.new hp)) h1⟩
  | _ => exact False.elim h1
end
end Dl
namespace Dl
open PySem L2
end Dl
namespace L2
open PySem PySem.Spec PyProof.Rows
section
variable {P : Program} {w : World} {A : Around} {E : Value → Shared → Prop} {s : Shared}
end
section
variable {X : Cx}
end
end L2
namespace Dl
open PySem L2
section
variable {X : Cx} {C : Addr} {e : Expr} {pos p1 p2 pos2 : Pos}
end
end Dl
namespace PySem
section
variable {prog : Program} {w : World} {A : Around} {E : Value → Shared → Prop} {s : Shared}
end
end PySem
namespace L2
open PySem PySem.Spec PyProof.Rows
section
variable {X : Cx} {e : Expr}
end
end L2
namespace Dl
open PySem L2
section
variable {X : Cx} {C : Addr} {e e2 : Expr} {ve vb : DE} {pos : Pos}
end
end Dl
namespace Dl
open PySem L2
def oAddO : DO := fun d e M R => match lstI M d, lstI M e with
  | some xs, some ys => xs.length + ys.length ≤ sizeLine ∧ pureL (xs ++ ys) = true ∧ ∀ p, M p = none → R (.own p) (mset M p (.lst (xs ++ ys)))
  | _, _ => False
theorem f_addO {d e : D} {M : Mem} {R : DR} {xs ys : List D} (h1 : lstI M d = some xs) (h2 : lstI M e = some ys) : oAddO d e M R = (xs.length + ys.length ≤ sizeLine ∧ pureL (xs ++ ys) = true ∧ ∀ p, M p = none → R (.own p) (mset M p (.lst (xs ++ ys)))) := by
  unfold oAddO; rw [h1, h2]
theorem f_addOLL {M : Mem} {R : DR} {xs ys : List D} : oAddO (.lst xs) (.lst ys) M R = (xs.length + ys.length ≤ sizeLine ∧ pureL (xs ++ ys) = true ∧ ∀ p, M p = none → R (.own p) (mset M p (.lst (xs ++ ys)))) := f_addO rfl rfl
section
variable {X : Cx} {C : Addr} {a b : Expr} {va vb : DE} {pos : Pos}
end
end Dl
namespace Dl
open PySem L2
section
variable {X : Cx} {C : Addr} {e : Expr} {pos : Pos} {vs : List Nat}
def vLcO (w : DI) (g : DG) (t : DT) (e : DE) (vs : List Nat) : DE := fun γ M R => w γ M fun j M1 => ∀ p, M1 p = none → ∃ W : Nat → List D → Mem → Prop, W 0 [] M1 ∧
  (∀ i acc M', W i acc M' → M' p = none ∧ acc.length < sizeLine ∧ j.st (mset M' p (.lst acc))) ∧
  (∀ i acc M' d, W i acc M' → j.its[i]? = some d → g d (gwipe γ vs) (mset M' p (.lst acc)) fun γ2 M2 => t γ2 M2 fun b M3 =>
    (b = true → e γ2 M3 fun y M4 => pureD y = true ∧ ∃ M5, M4 = mset M5 p (.lst acc) ∧ W (i + 1) (acc ++ [y]) M5) ∧ (b = false → ∃ M5, M3 = mset M5 p (.lst acc) ∧ W (i + 1) acc M5)) ∧
  (∀ acc M', W j.its.length acc M' → R (.own p) (mset M' p (.lst acc)))
theorem snd_lcO {G : Gx} {wi : TI} {w : DI} {g : DG} {t : DT} {ve : DE} (si : SndI G wi w) : Snd G (tLc wi (liftG G g vs) (liftT G t) (Dl.lift G ve) vs) (vLcO w g t ve vs) := by
  intro γ M R σ H Q r h k
  refine si γ M _ σ H _ r h fun j J M1 H1 o1 e1 ir h1 p hp => ?_
  have mp : M1 p = none := o1.fresh hp
  obtain ⟨W, w0, ws, step, fin⟩ := h1 p mp
  have own0 : Own G (mset M1 p (.lst [])) (upd H1 p (.lst [])) := o1.newOwn hp (by simp [pureL]) IsL.nil
  refine ⟨fun i m H' => m = j.its.length - i ∧ i ≤ j.its.length ∧ ∃ acc M', Own G (mset M' p (.lst acc)) H' ∧ Ext M1 (mset M' p (.lst acc)) H1 H' ∧ W i acc M', ⟨j.its.length, by simp, Nat.zero_le _, [], M1, own0, Ext.newOwn hp, w0⟩, ?_⟩
  rintro i m H' ⟨rfl, hi, acc, M', oM, eM, wi'⟩
  obtain ⟨mp', hz, hst⟩ := ws i acc M' wi'
  obtain ⟨go, stop⟩ := ir _ H' eM oM hst i
  by_cases hlt : i < j.its.length
  · have hd : j.its[i]? = some j.its[i] := by simp [hlt]
    obtain ⟨g1, y1⟩ := go _ hd
    refine .inr ⟨g1, fun H2 => ∃ acc M', Own G (mset M' p (.lst acc)) H2 ∧ Ext M1 (mset M' p (.lst acc)) H1 H2 ∧ W (i + 1) acc M', fun H2 q => ⟨j.its.length - (i + 1), by omega, rfl, hlt, q⟩, fun x H2 hy => ?_⟩
    obtain ⟨o2, i2, e2⟩ := y1 x H2 hy
    have x2 := eM.trans e2
    refine ⟨j.its[i], gwipe γ vs, mset M' p (.lst acc), _, ⟨((r.sl.ext (e1.trans x2)).wipe vs), o2⟩, i2, step i acc M' _ wi' hd, fun γ3 M3 σ3 H3 r3 e3 w3 h3 => ⟨w3.trans wipe_wipe, ?_⟩⟩
    refine ⟨γ3, M3, _, r3, h3, fun b M4 H4 o4 e4 h4 => ?_⟩
    cases b with
    | true =>
      rw [if_pos rfl]
      refine ⟨γ3, M4, _, r3.mk' e4 o4, h4.1 rfl, fun y M5 v H5 o5 i5 e5 h5 => ?_⟩
      obtain ⟨pu, M6, eq, w6⟩ := h5
      subst eq
      obtain ⟨pa, xs, hx, hl⟩ := o5 p (.lst acc) mset_same
      refine ⟨xs, hx, by rw [← hl.len]; exact hz, acc ++ [y], M6, ?_, ?_, w6⟩
      · have q := o5.put (p := p) (ds := acc ++ [y]) (xs := xs ++ [v]) (by rw [mset_same]; rfl) (pureL_append pa (by simp [pureL, pu])) (hl.append (IsL.cons i5 IsL.nil))
        rw [mset_set] at q
        exact q
      · have q := ((x2.trans e3).trans (e4.trans e5)).trans (Ext.put (p := p) (o := .lst (xs ++ [v])) (m := .lst (acc ++ [y])) (by rw [mset_same]; rfl))
        rw [mset_set] at q
        exact q
    | false =>
      rw [if_neg Bool.false_ne_true]
      obtain ⟨M6, eq, w6⟩ := h4.2 rfl
      subst eq
      exact ⟨acc, M6, o4, (x2.trans e3).trans e4, w6⟩
  · have en : i = j.its.length := by omega
    subst en
    refine .inl ⟨stop (Nat.le_refl _), ?_⟩
    obtain ⟨pa, xs, hx, hl⟩ := oM p (.lst acc) mset_same
    exact k (.own p) (mset M' p (.lst acc)) (.ref p) H' oM is_own (e1.trans eM) (fin acc M' wi')
theorem q_lcO {elt tg iter : Expr} {ifs : List Expr} {scope : Scope} {own : List (Str × Nat)} {w : DI} {g : DG} {t : DT} {ve : DE} (hN : X.N.Nodup) (hi : QI X C tg iter w) (ok : BlkOk X.N X.env.scope scope own)
    (hg : ∀ (s : Shared) (H : Hp) (a : Addr) (cl : List (Str × Addr)) (fp : List Addr), QGW (X.blk s H scope (compEnvC scope cl a X.env) fp) C tg g (own.map (·.2))) (ht : ∀ (s : Shared) (H : Hp) (a : Addr) (cl : List (Str × Addr)) (fp : List Addr), QTs (X.blk s H scope (compEnvC scope cl a X.env) fp) C ifs t)
    (he : ∀ (s : Shared) (H : Hp) (a : Addr) (cl : List (Str × Addr)) (fp : List Addr), QE (X.blk s H scope (compEnvC scope cl a X.env) fp) C elt ve) (hc : X.calm = true := by rfl) (hs : ∀ x, foldedSetIterable iter X.env x = pure x := by intro _; rfl) :
    QE X C (.ListComp elt [⟨tg, iter, ifs, 0⟩] scope pos) (vLcO w g t ve (own.map (·.2))) := by
  obtain ⟨wi, pi, si⟩ := hi.ex
  exact ⟨_, pe_lc hc hN pi ok (fun s H a cl fp => (hg s H a cl fp).lift) (fun s H a cl fp => (ht s H a cl fp).lift) (fun s H a cl fp => (he s H a cl fp).lift) hs, snd_lcO si⟩
end
end Dl
namespace Dl
open PySem L2
def oRep : DO := fun d e M R => match d, e with
  | .lst xs, .int k => 0 ≤ k ∧ k < 2 ^ 63 ∧ xs.length * k.toNat ≤ sizeLine ∧ R (.lst (List.replicate k.toNat xs).flatten) M
  | _, _ => False
theorem f_rep {M : Mem} {R : DR} {xs : List D} {k : Int} : oRep (.lst xs) (.int k) M R = (0 ≤ k ∧ k < 2 ^ 63 ∧ xs.length * k.toNat ≤ sizeLine ∧ R (.lst (List.replicate k.toNat xs).flatten) M) := rfl
theorem IsL.rep {G : Gx} {M : Mem} {H : Hp} {ds : List D} {xs : List V} (h : IsL G M H ds xs) : ∀ n, IsL G M H (List.replicate n ds).flatten (List.replicate n xs).flatten
  | 0 => IsL.nil
  | n + 1 => by
    rw [List.replicate_succ, List.replicate_succ, List.flatten_cons, List.flatten_cons]
    exact h.append (IsL.rep h n)
theorem sndO_rep {G : Gx} : SndO G rRep oRep := fun d e M R H x y Q o i1 i2 h k => by
  unfold oRep at h
  split at h
  · rename_i xs j
    obtain ⟨h0, h1, hz, hr⟩ := h
    unfold Is at i1 i2
    obtain ⟨a, us, rfl, ha, hH, hl⟩ := i1
    obtain rfl := i2
    refine ⟨a, j, us, rfl, rfl, hH, by omega, by omega, by rw [← hl.len]; exact hz, fun p hp => ?_⟩
    exact k _ M _ _ (o.new hp) (new_lst o hp (hl.rep _)) (Ext.new hp) hr
  · exact h.elim
def rReprS : List V → Hp → VK → Prop := fun xs H Q => (∃ b : Bool, xs = [.bl b] ∧ Q (.str (if b then "True" else "False")) H) ∨ (xs = [.non] ∧ Q (.str "None") H) ∨ ∃ i : Int, xs = [.int i] ∧ i.natAbs.log2 < 1920 ∧ Q (.str (toString i)) H
section
variable {X : Cx} {C : Addr} {a b : Expr} {va vb : DE} {pos : Pos}
theorem q_rep (ha : QE X C a va) (hb : QE X C b vb) : QE X C (.BinOp a .Mult b pos) (vOp oRep va vb) := qe_op op_rep sndO_rep ha hb
theorem cr_reprS : CallR X (.builtin "repr") rReprS := by
  intro pins s σ H xs us Q I r h
  rcases h with ⟨b, rfl, q⟩ | ⟨rfl, q⟩ | ⟨i, rfl, hz, q⟩
  · obtain ⟨u, rfl, t⟩ := vals1 r
    obtain rfl : u = Value.bool b := t
    exact PySem.P.repr_of_bool ⟨.str _, H, I.tok _, ⟨_, rfl⟩, q⟩
  · obtain ⟨u, rfl, t⟩ := vals1 r
    obtain rfl : u = Value.none := t
    exact PySem.P.repr_of_none ⟨.str _, H, I.tok _, ⟨_, rfl⟩, q⟩
  · obtain ⟨u, rfl, t, rfl⟩ := vals1 r
    exact PySem.P.repr_of_int hz ⟨.str _, H, I.tok _, ⟨_, rfl⟩, q⟩
def oRepr : DC := fun ds M R => match ds with
  | [.bl b] => R (.str (if b then "True" else "False")) M
  | [.non] => R (.str "None") M
  | [.int i] => i.natAbs.log2 < 1920 ∧ R (.str (toString i)) M
  | _ => False
theorem f_reprB {b : Bool} {M : Mem} {R : DR} : oRepr [.bl b] M R = R (.str (if b then "True" else "False")) M := rfl
theorem f_reprN {M : Mem} {R : DR} : oRepr [.non] M R = R (.str "None") M := rfl
theorem f_reprI {i : Int} {M : Mem} {R : DR} : oRepr [.int i] M R = (i.natAbs.log2 < 1920 ∧ R (.str (toString i)) M) := rfl
theorem bb_repr : bootBuiltins "repr" = some (.builtin "repr") := by decide +kernel
theorem b_repr : BQ X C (.builtin "repr") oRepr := ⟨_, cr_reprS, fun ds M R H xs Q o i1 h k => by
  unfold oRepr at h
  split at h
  · rename_i b
    obtain ⟨x, rfl, ix⟩ := isL1 i1
    unfold Is at ix
    subst ix
    exact .inl ⟨b, rfl, k _ M _ H o is_str Ext.refl h⟩
  · obtain ⟨x, rfl, ix⟩ := isL1 i1
    unfold Is at ix
    subst ix
    exact .inr (.inl ⟨rfl, k _ M _ H o is_str Ext.refl h⟩)
  · rename_i i
    obtain ⟨x, rfl, ix⟩ := isL1 i1
    unfold Is at ix
    subst ix
    exact .inr (.inr ⟨i, rfl, h.1, k _ M _ H o is_str Ext.refl h.2⟩)
  · exact h.elim⟩
end
section
variable {X : Cx} {C : Addr} {e : Expr} {pos p1 p2 pos2 : Pos}
end
end Dl
namespace Dl
open PySem L2
section
variable {X : Cx} {C : Addr}
end
end Dl
namespace Dl
open PySem L2
section
variable {α : Type} {a b c d e f g : α}
theorem pk11 : pickL [0, 1] [a] [b] = [a, b] := rfl
theorem pk21 : pickL [0, 1, 2] [a, b] [c] = [a, b, c] := rfl
theorem pk31 : pickL [0, 1, 2, 3] [a, b, c] [d] = [a, b, c, d] := rfl
theorem pk41 : pickL [0, 1, 2, 3, 4] [a, b, c, d] [e] = [a, b, c, d, e] := rfl
theorem pk51 : pickL [0, 1, 2, 3, 4, 5] [a, b, c, d, e] [f] = [a, b, c, d, e, f] := rfl
end
theorem cp10 : CP 10 20 := ⟨by decide, by decide +kernel⟩
end Dl
namespace L2
open PySem PySem.Spec PyProof.Rows
section
variable {X : Cx} {a b c d : Expr} {ta tb tc td : TE} {pos : Pos}
end
end L2
namespace Dl
open PySem L2
section
variable {X : Cx} {C : Addr} {a b c d : Expr} {va vb vc vd : DE} {pos : Pos}
end
end Dl
namespace Dl
open PySem L2
end Dl
namespace Dl
open PySem L2
end Dl
namespace Dl
open PySem L2
section
variable {X : Cx} {C : Addr}
def oInDG (f : Bool → Bool) : DO := fun d t M R => match toP d, toP t with
  | some p, some (.list ps) => PyData.canLayAll0 ps = true ∧ p.canLay0 = true ∧ p.depth = 0 ∧ R (.bl (f (ps.any fun y => PyData.eqv y p))) M
  | _, _ => False
end
end Dl
namespace Dl
open PySem L2
section
open PySem PySem.Calls PyProof.Rows PySem.W
variable {prog : Program} {w : World} {A : Around} {E : Value → Shared → Prop} {s : Shared} {K : Frag} {x y C f : Addr} {ox oy : Obj} {od od' : Option Obj}
end
structure NeF (K : PySem.W.Frag) (C : Addr) : Prop where
  ne : PySem.W.findIn K (.ref C) "__ne__" = some (some (.builtin "object.__ne__"))
  po : PySem.W.plainOver K C = true
section
variable {X : Cx} {C : Addr} {j k : Nat} {S : DSp}
end
end Dl
namespace Dl
open PySem L2
def oLtT : DO := fun d e M R => match d, e with
  | .tup xs, .tup ys => (match intsD xs, intsD ys with
    | some ns, some ms => R (.bl (HT.lexLt ns ms)) M
    | _, _ => False)
  | _, _ => False
section
variable {X : Cx} {C : Addr}
end
theorem f_ltT2 {a b c d : Int} {M : Mem} {R : DR} : oLtT (.tup [.int a, .int b]) (.tup [.int c, .int d]) M R = R (.bl (decide (a < c) || (decide (a = c) && decide (b < d)))) M := by
  have e : oLtT (.tup [.int a, .int b]) (.tup [.int c, .int d]) M R = R (.bl (HT.lexLt [a, b] [c, d])) M := rfl
  rw [e]
  congr 2
  show (if a = c then (if b = d then false else decide (b < d)) else decide (a < c)) = _
  by_cases h : a = c
  · subst h
    by_cases h2 : b = d
    · subst h2; simp
    · simp [h2]
  · simp [h]
end Dl
namespace Dl
open PySem L2
def vAugL (i : Nat) (a : DE) : DS := fun Ed γ M => match gt γ i with
  | some (.own p) => a γ M fun d M1 => (match lstI M1 d, M1 p with
    | some ys, some (.lst xs) => pureL ys = true ∧ xs.length + ys.length ≤ sizeLine ∧ Ed.nx (gset γ i (some (.own p))) (mset M1 p (.lst (xs ++ ys)))
    | _, _ => False)
  | _ => False
theorem e_vAugL (i : Nat) (a : DE) (Ed : DEnds) (γ : Gm) (M : Mem) : vAugL i a Ed γ M = (match gt γ i with
  | some (.own p) => a γ M fun d M1 => (match lstI M1 d, M1 p with
    | some ys, some (.lst xs) => pureL ys = true ∧ xs.length + ys.length ≤ sizeLine ∧ Ed.nx (gset γ i (some (.own p))) (mset M1 p (.lst (xs ++ ys)))
    | _, _ => False)
  | _ => False) := propext Iff.rfl
section
variable {X : Cx} {C : Addr} {e : Expr} {ve : DE} {pos : Pos}
theorem qs_augL {i : Nat} {x : Str} {pos' : Pos} (hN : X.N.Nodup) (he : QE X C e ve) (hi : X.N[i]? = some x := by rfl) (hx : Loc X.env.scope x := by first | exact Or.inl rfl | exact Or.inr rfl) (hf : X.fn x = true ∨ X.env.scope.names.lookup x = some .local := by first | exact .inl rfl | exact .inr rfl | assumption) :
    QS X C (.AugAssign (.Name x pos') .Add e pos) (vAugL i ve) := by
  obtain ⟨t, p, s⟩ := he.ex
  refine ⟨_, ps_aug hN hi hx p (fun pins s σ H x y v u Q I r1 r2 h => iop_ext pins s σ H x y v u Q I r1 r2 h) hf, fun Ed γ M σ H E r l h => ?_⟩
  unfold vAugL at h
  split at h
  · rename_i q g
    obtain ⟨v, h1, h2⟩ := r.sl.get g
    refine ⟨v, h1, s γ M _ σ H _ r h fun d M1 y H1 o1 i1 e1 h3 => ?_⟩
    split at h3
    · rename_i ys xs ey ex
      obtain ⟨pu, hz, hn⟩ := h3
      have j := Is.ext e1 _ _ h2
      unfold Is at j
      obtain ⟨pu2, us, ha, hl⟩ := o1 q _ ex
      obtain ⟨b, ws, rfl, hl2, hb⟩ := lst_at o1 i1 ey
      refine ⟨q, b, us, ws, j.1, rfl, ha, hb, by rw [← hl.len, ← hl2.len]; exact hz, ?_⟩
      have x2 : Ext M1 (mset M1 q (.lst (xs ++ ys))) H1 (upd H1 q (.lst (us ++ ws))) := Ext.put j.2
      refine l.nx _ _ _ _ ⟨((r.sl.ext (e1.trans x2)).set ?_), o1.put j.2 (pureL_append pu2 pu) (hl.append hl2)⟩ (e1.trans x2) hn
      unfold Is
      exact ⟨rfl, by rw [mset_same]; rfl⟩
    · exact h3.elim
  · exact h.elim
end
end Dl
namespace Dl
open PySem L2
def oEqE : DO := fun d e M R => match d, e with
  | .lst (_ :: _), .lst [] => R (.bl false) M
  | _, _ => False
theorem f_eqE {d : D} {ds : List D} {M : Mem} {R : DR} : oEqE (.lst (d :: ds)) (.lst []) M R = R (.bl false) M := rfl
theorem f_eqE2 {ds : List D} {M : Mem} {R : DR} (h : ds ≠ []) : oEqE (.lst ds) (.lst []) M R = R (.bl false) M := by
  cases ds with
  | nil => exact absurd rfl h
  | cons _ _ => rfl
def rEqE : R2 := fun x y H Q => ∃ a b xs, x = .ref a ∧ y = .ref b ∧ xs ≠ [] ∧ H a = some (.lst xs) ∧ H b = some (.lst []) ∧ Q (.bl false) H
section
variable {X : Cx} {C : Addr}
theorem op_eqE (hu : X.A.units < cLine) : OpR X (compareOp .Eq) rEqE := by
  intro pins s σ H x y v u Q I rx ry h
  obtain ⟨a, b, xs, rfl, rfl, ne, ea, eb, q⟩ := h
  obtain rfl : v = Value.ref a := rx
  obtain rfl : u = Value.ref b := ry
  obtain ⟨_, its, n, ra, ya⟩ := (show ObjOk X.prog X.w H s.heap a (.lst xs) from I.hok a _ ea)
  obtain ⟨_, jts, m, rb, yb⟩ := (show ObjOk X.prog X.w H s.heap b (.lst []) from I.hok b _ eb)
  refine SeqAt.eq_list_lengthsAt ⟨_, ya, rfl, _, rfl⟩ ⟨_, yb, rfl, _, rfl⟩ ?_ hu ⟨.bl _, H, I, rfl, q⟩
  have h1 := ra.length
  have h2 := rb.length
  cases xs with
  | nil => exact absurd rfl ne
  | cons z zs => simp at h1 h2 ⊢; omega
theorem sndO_eqE {G : Gx} : SndO G rEqE oEqE := fun d e M R H x y Q o i1 i2 h k => by
  unfold oEqE at h
  split at h
  · unfold Is at i1 i2
    obtain ⟨a, us, ex, _, ha, hl⟩ := i1
    obtain ⟨b, vs, ey, _, hb, hl2⟩ := i2
    have l1 := hl.len
    have l2 := hl2.len
    have ev : vs = [] := by cases vs with
      | nil => rfl
      | cons _ _ => simp at l2
    subst ev
    exact ⟨a, b, us, ex, ey, fun z => by rw [z] at l1; simp at l1, ha, hb, k _ M _ H o is_bl Ext.refl h⟩
  · exact h.elim
theorem c_eqE {k : Nat} (hr : Room k X.A) : CmpQ X C .Eq oEqE := ⟨_, op_eqE (by have := hr.units; omega), sndO_eqE⟩
end
end Dl
namespace Dl
open PySem L2
abbrev DEX := Gm → Mem → DR → DX → Prop
abbrev DTX := Gm → Mem → (Bool → Mem → Prop) → DX → Prop
abbrev DAX := Gm → Mem → (List D → Mem → Prop) → DX → Prop
abbrev DSx := List D → Mem → DX → Prop
def XOk (X : Cx) (C : Addr) (M : Mem) (σ : St) (H : Hp) (Xd : DX) : Prop := ∀ M' H' xd cls d, Own ⟨X.K, C⟩ M' H' → XIs ⟨X.K, C⟩ M' H' xd cls d → Ext M M' H H' → Xd xd M' → wX X cls d σ H'
theorem XOk.ext {X : Cx} {C : Addr} {M M1 : Mem} {σ : St} {H H1 : Hp} {Xd : DX} (k : XOk X C M σ H Xd) (e : Ext M M1 H H1) : XOk X C M1 σ H1 Xd := fun M' H' xd cls d o i x h => k M' H' xd cls d o i (e.trans x) h
def SndX (X : Cx) (C : Addr) (t : TE) (v : DEX) : Prop := ∀ (γ : Gm) (M : Mem) (R : DR) (Xd : DX) (σ : St) (H : Hp) (Q : VK), Rel ⟨X.K, C⟩ M γ σ H → v γ M R Xd →
  (∀ d M' x H', Own ⟨X.K, C⟩ M' H' → Is ⟨X.K, C⟩ M' H' d x → Ext M M' H H' → R d M' → Q x H') → XOk X C M σ H Xd → t σ H Q
def SndTX (X : Cx) (C : Addr) (t : TT) (v : DTX) : Prop := ∀ (γ : Gm) (M : Mem) (R : Bool → Mem → Prop) (Xd : DX) (σ : St) (H : Hp) (Q : Bool → Hp → Prop), Rel ⟨X.K, C⟩ M γ σ H → v γ M R Xd →
  (∀ b M' H', Own ⟨X.K, C⟩ M' H' → Ext M M' H H' → R b M' → Q b H') → XOk X C M σ H Xd → t σ H Q
def SndAX (X : Cx) (C : Addr) (t : TA) (v : DAX) : Prop := ∀ (γ : Gm) (M : Mem) (R : List D → Mem → Prop) (Xd : DX) (σ : St) (H : Hp) (Q : List V → Hp → Prop), Rel ⟨X.K, C⟩ M γ σ H → v γ M R Xd →
  (∀ ds M' xs H', Own ⟨X.K, C⟩ M' H' → IsL ⟨X.K, C⟩ M' H' ds xs → Ext M M' H H' → R ds M' → Q xs H') → XOk X C M σ H Xd → t σ H Q
structure QEX (X : Cx) (C : Addr) (e : Expr) (v : DEX) : Prop where
  ex : ∃ t, PE X e t ∧ SndX X C t v
structure QTX (X : Cx) (C : Addr) (e : Expr) (v : DTX) : Prop where
  ex : ∃ t, PT X e t ∧ SndTX X C t v
structure QAX (X : Cx) (C : Addr) (es : List Expr) (v : DAX) : Prop where
  ex : ∃ t, PA X es t ∧ SndAX X C t v
structure QKX (X : Cx) (C : Addr) (kws : List Keyword) (v : DAX) : Prop where
  ex : ∃ t, PK X kws t ∧ SndAX X C t v
def vL (v : DE) : DEX := fun γ M R _ => v γ M R
def tL (v : DT) : DTX := fun γ M R _ => v γ M R
def aL (v : DA) : DAX := fun γ M R _ => v γ M R
section
variable {X : Cx} {C : Addr} {e : Expr} {es : List Expr} {pos : Pos}
theorem QE.x {v : DE} (h : QE X C e v) : QEX X C e (vL v) := let ⟨t, p, s⟩ := h.ex; ⟨t, p, fun γ M R _ σ H Q r hv k _ => s γ M R σ H Q r hv k⟩
theorem QT.x {v : DT} (h : QT X C e v) : QTX X C e (tL v) := let ⟨t, p, s⟩ := h.ex; ⟨t, p, fun γ M R _ σ H Q r hv k _ => s γ M R σ H Q r hv k⟩
theorem QA.x {v : DA} (h : QA X C es v) : QAX X C es (aL v) := let ⟨t, p, s⟩ := h.ex; ⟨t, p, fun γ M R _ σ H Q r hv k _ => s γ M R σ H Q r hv k⟩
theorem QK.x {kws : List Keyword} {v : DA} (h : QK X C kws v) : QKX X C kws (aL v) := let ⟨t, p, s⟩ := h.ex; ⟨t, p, fun γ M R _ σ H Q r hv k _ => s γ M R σ H Q r hv k⟩
end
def spX (G : Gx) (n : Nat) (S : DSx) : Sp := fun vs H _ E => ∃ (ds : List D) (M : Mem) (Xd : DX), ds.length = n ∧ IsL G M H ds vs ∧ Own G M H ∧ S ds M Xd ∧
  ∀ xd M' cls d H', Own G M' H' → XIs G M' H' xd cls d → Ext M M' H H' → Xd xd M' → E cls d H'
def spU (G : Gx) (n : Nat) (S : DSp) (Sx : DSx) : Sp := fun vs H Q E => spD G n S vs H Q E ∨ spX G n Sx vs H Q E
abbrev CXp (P : Program) (w : World) : CXT := L2.CX P w
theorem fn_cx {P : Program} {w : World} {K : PySem.W.Frag} {mg : Str → Option Value} {base : Heap} {k : Nat} {f : Addr} {fd : FuncData} {ps : List Str} {sp : Sp} {CX : CXT} (F : FnOk P w K mg base CX0 k f fd ps sp) : FnOk P w K mg base CX k f fd ps sp :=
  ⟨F.len, fun A outer s H args us vs Q E hr he hb hv hs => codeAny_mono (F.run A outer s H args us vs Q E hr he hb hv hs) fun r s' h => by
    cases r with
    | ok fl => cases fl <;> exact h
    | error e => exact False.elim h⟩
theorem fn_both {P : Program} {w : World} {K : PySem.W.Frag} {mg : Str → Option Value} {base : Heap} {k j : Nat} {f : Addr} {fd : FuncData} {ps : List Str} {G : Gx} {n : Nat} {S : DSp} {Sx : DSx} (F : FnOk P w K mg base CX0 k f fd ps (spD G n S)) (Fx : FnOk P w K mg base (CXp P w) j f fd ps (spX G n Sx)) :
    FnOk P w K mg base (CXp P w) (max k j) f fd ps (spU G n S Sx) :=
  ⟨fun vs H Q E h => h.elim (F.len vs H Q E) (Fx.len vs H Q E), fun A outer s H args us vs Q E hr he hb hv hs => by
    rcases hs with h | h
    · exact (fn_cx F).run A outer s H args us vs Q E (hr.mono (Nat.le_max_left _ _)) he hb hv h
    · exact Fx.run A outer s H args us vs Q E (hr.mono (Nat.le_max_right _ _)) he hb hv h⟩
structure CallX (P : Program) (w : World) (K : PySem.W.Frag) (mg : Str → Option Value) (base : Heap) (C : Addr) (k : Nat) (x : Str) (n : Nat) (S : DSp) (Sx : DSx) (dd : List D) : Prop where
  ex : ∃ (f : Addr) (fd : FuncData) (ps : List Str) (ds : List Value) (dv : List V), mg x = some (.ref f) ∧ PySem.W.keepIn K (.ref f) = true ∧ FnOk P w K mg base (CXp P w) k f fd ps (spU ⟨K, C⟩ n S Sx) ∧ Binds K fd ps ds ∧ Vals dv ds ∧ constL dd = some dv
structure KCallX (P : Program) (w : World) (K : PySem.W.Frag) (mg : Str → Option Value) (base : Heap) (C : Addr) (k : Nat) (x : Str) (n : Nat) (S : DSp) (Sx : DSx) (np : Nat) (ks : List Str) (pick : List D → List D → List D) : Prop where
  ex : ∃ (f : Addr) (fd : FuncData) (ps : List Str) (g : List Value → List Value → List Value) (gV : List V → List V → List V), mg x = some (.ref f) ∧ PySem.W.keepIn K (.ref f) = true ∧ FnOk P w K mg base (CXp P w) k f fd ps (spU ⟨K, C⟩ n S Sx) ∧ KBn K fd ps np ks g gV ∧
    ∀ (M : Mem) (H : Hp) (ds zs : List D) (vs us : List V), IsL ⟨K, C⟩ M H ds vs → IsL ⟨K, C⟩ M H zs us → IsL ⟨K, C⟩ M H (pick ds zs) (gV vs us)
section
variable {X : Cx} {C : Addr} {k j n : Nat} {S : DSp} {Sx : DSx} {dd : List D} {x : Str} {p pos : Pos} {e : Expr} {es : List Expr} {fd : FuncData} {ps : List Str} {f : Addr} {sp : Sp}
theorem cx_xe {pins : List (Addr × Obj)} {σ : St} {H : Hp} {s : Shared} {E : XK} (I : Inv X pins σ H s) (hW : ∀ cls d H', E cls d H' → wX X cls d σ H') : ∀ u s', CXp X.prog X.w X.stack H s E u s' → X.xe u s' :=
  fun u s' c => takes_wX u s' (XE.of_call I hW c)
def wishD (X : Cx) (C : Addr) (M : Mem) (H : Hp) (Xd : DX) : XK := fun cls d H' => ∃ xd M', Own ⟨X.K, C⟩ M' H' ∧ XIs ⟨X.K, C⟩ M' H' xd cls d ∧ Ext M M' H H' ∧ Xd xd M'
theorem spU_of {M : Mem} {R : DR} {Xd : DX} {ds : List D} {xs : List V} {σ : St} {H : Hp} {Q : VK} (hl : ds.length = n) (o : Own ⟨X.K, C⟩ M H) (i : IsL ⟨X.K, C⟩ M H ds xs) (hs : S ds M R noX ∨ Sx ds M Xd)
    (k : ∀ d M' x H', Own ⟨X.K, C⟩ M' H' → Is ⟨X.K, C⟩ M' H' d x → Ext M M' H H' → R d M' → Q x H') (kx : XOk X C M σ H Xd) : ∃ E : XK, spU ⟨X.K, C⟩ n S Sx xs H Q E ∧ ∀ cls d H', E cls d H' → wX X cls d σ H' := by
  refine ⟨wishD X C M H Xd, ?_, fun cls d H' ⟨xd, M', o', i', e', h'⟩ => kx M' H' xd cls d o' i' e' h'⟩
  rcases hs with h | h
  · exact .inl ⟨ds, M, R, hl, i, o, h, k⟩
  · exact .inr ⟨ds, M, Xd, hl, i, o, h, fun xd M' cls d H' o' i' e' h' => ⟨xd, M', o', i', e', h'⟩⟩
end
section
variable {X : Cx} {C : Addr} {e : Expr} {pos : Pos} {ve : DEX}
def vDropX (a : DEX) : DS := fun Ed γ M => a γ M (fun _ M1 => Ed.nx γ M1) (Ed.xx γ)
theorem Lk.xok {M : Mem} {γ : Gm} {σ : St} {H : Hp} {Ed : DEnds} {E : Ends} (l : Lk X C M H Ed E) (r : Rel ⟨X.K, C⟩ M γ σ H) : XOk X C M σ H (Ed.xx γ) := fun M' H' xd cls d o i x h => l.xx γ M' σ H' xd cls d (r.mk' x o) i x h
theorem qs_exprX (he : QEX X C e ve) (hs : swapsWith e none pos.line X.env = pure false := by rfl) : QS X C (.Expr e pos) (vDropX ve) :=
  let ⟨_, p, s⟩ := he.ex; ⟨_, ps_expr p hs, fun Ed γ M σ H E r l h => s γ M _ (Ed.xx γ) σ H _ r h (fun d M1 x H1 o1 i1 e1 h1 => l.nx γ M1 σ H1 (r.mk' e1 o1) e1 h1) (l.xok r)⟩
end
def finX (M : Mem) (Xd : DX) : DX := fun xd M' => ∃ M2, Sub M2 M' ∧ (∀ a, (M a).isSome = true → (M2 a).isSome = true) ∧ pureD xd.fld = true ∧ Xd xd M2
theorem finX_pure {M : Mem} {Xd : DX} {xd : XD} (h : Xd xd M) (p : pureD xd.fld = true := by rfl) : finX M Xd xd M := ⟨M, Sub.refl, fun _ h => h, p, h⟩
def xEnds (M : Mem) (Xd : DX) : DEnds := { nx := fun _ _ => False, rt := fun _ _ => False, xx := fun _ xd M' => finX M Xd xd M' }
theorem xis_sub {G : Gx} {M M' : Mem} {H : Hp} {xd : XD} {cls : Value} {d : Option Addr} (s : Sub M M') (p : pureD xd.fld = true) (h : XIs G M' H xd cls d) : XIs G M H xd cls d := by
  obtain ⟨h1, h2, h3⟩ := h
  refine ⟨h1, h2, ?_⟩
  rcases h3 with h3 | ⟨n, dd, u, e, m, hd, i⟩
  · exact .inl h3
  · exact .inr ⟨n, dd, u, e, s.non m, hd, Is.sub (fun a ha => s.non ha) _ _ p i⟩
section
variable {P : Program} {w : World} {K : PySem.W.Frag} {mg : Str → Option Value} {base : Heap} {x qual : Str} {params : Arguments} {body : List Stmt} {scope : Scope} {dvs : List V} {kws : List (Str × V)} {f : Addr} {fd : FuncData}
theorem fn_okX {N ps : List Str} {k : Nat} {C : Addr} {S : DSx} {v : DS} (n m : Nat) (F : FunD K x qual params body scope dvs kws f fd) (SC : FnScope N ps scope)
    (hq : ∀ (cdv : Value) (A : Around) (outer : List Env) (s : Shared) (H : Hp) (E : XK), Room k (A.deeper (PyProof.Rows.envOfC qual scope s.heap.objs.size f cdv)) → QSs (cxOf (CXp P w) P w K mg base N qual scope f cdv A outer s H E) C body v)
    (hv : ∀ ds M Xd, ds.length = m → S ds M Xd → v (xEnds M Xd) (st0 n ds) M) (hn : N.length = n := by rfl) (hm : ps.length = m := by rfl) : FnOk P w K mg base (CXp P w) (k + 1) f fd ps (spX ⟨K, C⟩ m S) := by
  subst hn; subst hm
  have hpl : ps.length ≤ N.length := by have := congrArg List.length SC.pre; rw [List.length_take] at this; omega
  obtain ⟨oc, od, dV, kV, doc, pm, an, cdv, ct, osl, e, lk, hcd, _⟩ := F.ex
  subst e
  refine fn_of lk hcd SC (fun vs H Q E h => ?_) (fun A outer s H vs Q E hr h => ?_)
  · obtain ⟨ds, M, Xd, hl, il, _⟩ := h
    rw [← il.len]; exact hl
  · obtain ⟨ds, M, Xd, hl, il, ow, hs, k2⟩ := h
    obtain ⟨t, pt, st⟩ := (hq cdv A outer s H E hr).ex
    refine ⟨t, pt, st (xEnds M Xd) (st0 N.length ds) M _ H _ ⟨st0_rel il (by omega), ow⟩ ⟨fun _ _ _ _ _ _ z => z.elim, fun _ _ _ _ _ _ _ z => z.elim, fun _ _ _ _ _ _ z => z.elim, fun _ _ _ _ _ _ z => z.elim, ?_⟩ (hv ds M Xd hl hs)⟩
    intro γ M' σ H' xd cls d r i e' hf
    obtain ⟨M2, sb, dm, pu, hx⟩ := hf
    exact wX_of (takes_of rfl rfl rfl rfl) (k2 xd M2 cls d H' (r.ow.sub sb) (xis_sub sb pu i) (e'.sub sb dm) hx)
end
end Dl
namespace Dl
open PySem L2
def spEx (C : Addr) (f : Str) : Sp := fun vs H Q _ => ∃ (a : Addr) (y : V), vs = [V.ref a, y] ∧ H a = some (exo a C none) ∧ ∀ dd, H dd = none → dd ≠ a → Q .non (upd (upd H dd (exd dd [(f, y)])) a (exo a C (some dd)))
structure ExK (P : Program) (w : World) (K : PySem.W.Frag) (mg : Str → Option Value) (base : Heap) (k : Nat) (c : Str) : Prop where
  ex : ∃ (fI : Addr) (fd : FuncData) (ps : List Str), mg c = some (.ref (He.ga K c)) ∧ OexC K (He.ga K c) ∧ PySem.W.findIn K (.ref (He.ga K c)) "__init__" = some (some (.ref fI)) ∧ PySem.W.typeIn K (.ref fI) = some (.type "function") ∧
    FnOk P w K mg base CX0 k fI fd ps (spEx (He.ga K c) (fldN c)) ∧ Binds K fd ps [] ∧ PySem.W.exmOne K (.ref (He.ga K c)) (.ref (He.ga K "FourTestsError")) = some true ∧ noFld c = false
section
variable {X : Cx} {C : Addr} {j k : Nat} {c : Str} {e : Expr} {va : DA} {p pos pos' : Pos}
end
theorem exH_ok {P : Program} {w : World} {H : Hp} {h : Heap} {C a : Addr} {d : Option Addr} {oe : Obj} {vs : Array Value} (e : h.get? a = some oe) (z : Zc (.ref C) d oe) (hd : oe.data = .fields vs) : ObjOk P w H h a (exH C d a) :=
  ⟨⟨oe, vs, e, z, hd⟩, ⟨oe, e⟩, fun _ _ ⟨o, v, q, r⟩ k => ⟨o, v, k o q, r⟩⟩
section
variable {X : Cx} {pins : List (Addr × Obj)} {σ : St} {H : Hp} {s : Shared}
theorem inv_adopt {C a : Addr} {d : Option Addr} {oe : Obj} {vs : Array Value} (I : Inv X ((a, oe) :: pins) σ H s) (n0 : X.s_0.heap.get? a = none) (np : ∀ p ∈ X.pn ++ pins, p.1 ≠ a) (z : Zc (.ref C) d oe) (hd : oe.data = .fields vs) :
    Inv X pins σ (upd H a (exH C d a)) s := by
  obtain ⟨ha, na, nL, nF, nc⟩ := I.pin (a, oe) (List.mem_append_right _ List.mem_cons_self)
  have ne0 : ∀ b o, X.s_0.heap.get? b = some o → b ≠ a := fun b o q y => by rw [y, n0] at q; cases q
  have neH : ∀ {b : Addr} {u : HO}, H b = some u → b ≠ a := fun {b u} q y => by rw [y, na] at q; cases q
  have B := I.base
  refine ⟨I.ok, I.os, I.bare, ⟨B.keep, B.slot, fun b o q n hx => ?_, B.there, fun b xs q => ?_, fun b o u q => ?_, fun b ps q => ?_⟩, I.loc, I.cell, ?_, fun x c q => ?_, fun p hp => ?_, fun b u q => ?_, I.len⟩
  · rw [upd_ne (ne0 b o q)]; exact B.free b o q n hx
  · have y := B.tups b xs q
    rw [upd_ne (neH y)]; exact y
  · have y := B.frzs b o u q
    rw [upd_ne (neH y)]; exact y
  · obtain ⟨more, y⟩ := B.tbls b ps q
    exact ⟨more, by rw [upd_ne (neH y)]; exact y⟩
  · rw [upd_ne (fun y => nL y.symm)]; exact I.free
  · have nca : c ≠ a := fun y => by
      obtain ⟨v, o, ho, hdd⟩ := I.cell x c q
      rw [y, ha] at ho; cases ho
      exact nc _ hdd
    rw [upd_ne nca]; exact I.freeC x c q
  · have hp2 : p ∈ X.pn ++ (a, oe) :: pins := by
      rcases List.mem_append.mp hp with y | y
      · exact List.mem_append_left _ y
      · exact List.mem_append_right _ (List.mem_cons_of_mem _ y)
    obtain ⟨q1, q2, q3⟩ := I.pin p hp2
    exact ⟨q1, by rw [upd_ne (np p hp)]; exact q2, q3⟩
  · by_cases hb : b = a
    · subst hb
      rw [upd_same] at q
      cases q
      exact exH_ok ha z hd
    · rw [upd_ne hb] at q
      exact (I.hok b u q).stay (fun _ _ _ y => y) (fun c y => by rw [upd_ne (neH y)]; exact y) fun c xs y => by rw [upd_ne (neH y)]; exact y
theorem inv_unsuite {a : Addr} {oe : Obj} {pn' : List (Addr × Obj)} (I : Inv (X.suite a ((a, oe) :: (X.pn ++ pins))) pn' σ H s) (ok : X.Ok) : Inv X ((a, oe) :: pins) σ H s :=
  ⟨ok, I.os, I.bare, I.base, I.loc, I.cell, I.free, I.freeC, fun p hp => I.pin p (List.mem_append_left _ (by
    rcases List.mem_append.mp hp with y | y
    · exact List.mem_cons_of_mem _ (List.mem_append_left _ y)
    · rcases List.mem_cons.mp y with y | y
      · rw [y]; exact List.mem_cons_self
      · exact List.mem_cons_of_mem _ (List.mem_append_right _ y))), I.hok, I.len⟩
end
def xdD (x : XD) : D := if noFld x.cls then .exn0 x.cls else .exn x.cls x.fld
def liftS (X : Cx) (C : Addr) (v : DS) : TS := fun E σ H => ∃ (Ed : DEnds) (γ : Gm) (M : Mem), Rel ⟨X.K, C⟩ M γ σ H ∧ Lk X C M H Ed E ∧ v Ed γ M
section
variable {X : Cx} {C : Addr} {x n y : Str} {i j : Nat} {body : List Stmt} {np pn1 pn2 pa pos pos' : Pos} {vb : DS}
end
end Dl
namespace Dl
open PySem PySem.W PySem.Calls PyProof.Rows
section
variable {P : Program} {w : World} {A : Around} {E : Value → Shared → Prop}
end
structure ExI (P : Program) (K : Frag) (mg : Str → Option Value) (C fI : Addr) (qual : Str) (params : Arguments) (body : List Stmt) (scope : Scope) (f : Str) : Prop where
  fn : ∃ (oc : Value) (od : Option Addr) (dV kV doc pm : Value) (an : Option Addr) (ct : Value) (cda cc : Addr) (osl : Array (Option Value)), K.lookup fI = some ⟨oc, od, .func (ksFn "__init__" qual params body scope dV kV doc pm an (.ref cda) ct cc), osl⟩ ∧ codeIn K (.ref cda) qual = true ∧
    (∃ (c1 : Value) (d1 : Option Addr) (vs : Array Value) (s1 : Array (Option Value)) (tf : Tok), K.lookup cda = some ⟨c1, d1, .fields vs, s1⟩ ∧ vs[2]? = some (.str P.main.file tf)) ∧ (∃ (c2 : Value) (d2 : Option Addr) (s2 : Array (Option Value)), K.lookup cc = some ⟨c2, d2, .cell (some (.ref C)), s2⟩)
  top : (P.main.scope.names.lookup ("super" : Str)).isSome = false
  sup : mg "super" = none
  oex : L2.OexC K C
  sub : mroIn K C (.ref C) = some true
  ve : subIn K (.ref C) (.type "ValueError") = some true
  par : ∃ cd, clsIn K C = some cd ∧ alongIn K "__init__" ((cd.mro.dropWhile (· != .ref C)).drop 1) = some (some (.builtin "ValueError.__init__"))
  no3 : nsIn K cStatics "thirdparty.any" = some none
  fld : findIn K (.ref C) f = some none
  body_ : ∃ p0 p1 p2 p3 p4 p5 p6 p7 p8 p9, body = [.Expr (.Call (.Attribute (.Call (.Name "super" p0) [] [] p1) "__init__" p2) [.Name f p3] [] p4) p5, .Assign [.Attribute (.Name "self" p6) f p7] (.Name f p8) p9] ∧
    ∀ env : Env, ∃ pl : Sem Bool, eval (.Call (.Attribute (.Call (.Name "super" p0) [] [] p1) "__init__" p2) [.Name f p3] [] p4) env = (do
      let ov ← attributeBase (.Call (.Name "super" p0) [] [] p1) "__init__" env (eval (.Call (.Name "super" p0) [] [] p1) env)
      standAt p2.atName
      let (g, first) ← holding [ov] (getMethod ov "__init__" pl)
      callWith p4 g first (backTo p4 (starEach [.Name f p3] env)) [])
  head : (params.posonlyargs ++ params.args).head?.map (·.arg) = some ("self" : Str)
  sc1 : scope.names.lookup ("self" : Str) = some NameKind.local
  sc2 : scope.names.lookup f = some NameKind.local
  sc3 : scope.names.lookup ("super" : Str) = some NameKind.globalImplicit
  sc4 : scope.names.lookup ("__class__" : Str) = some NameKind.free
  cell : ∀ x ∈ scope.names, x.2 ≠ .cell
  flags : scope.isCoroutine = false ∧ scope.isGenerator = false ∧ scope.kind = .function
  names : (f == ("self" : Str)) = false ∧ (f == ("__debug__" : Str)) = false ∧ (f == ("__classdict__" : Str)) = false
section
variable {P : Program} {w : World} {A : Around} {K : Frag} {mg : Str → Option Value} {C fI x t0 : Addr} {qual f : Str} {params : Arguments} {body : List Stmt} {scope : Scope} {R : Result → Shared → Prop}
end
end Dl
namespace Dl
open PySem L2
end Dl
namespace Dl
open PySem PySem.W PySem.Calls PyProof.Rows
section
variable {prog : Program} {w : World} {A : Around} {E : Value → Shared → Prop} {s : Shared} {K : Frag} {x D : Addr} {ox : Obj} {od : Option Obj}
end
end Dl
namespace Dl
open PySem L2
section
variable {X : Cx} {pins : List (Addr × Obj)} {σ : St} {H : Hp} {s : Shared}
end
structure ExAll (K : PySem.W.Frag) (mg : Str → Option Value) (cs ts : List Str) : Prop where
  cls : ∀ c ∈ cs, ExcC K (He.ga K c)
  own : ∀ c ∈ cs, ∀ t ∈ ts, PySem.W.kitOne K (.ref (He.ga K c)) (.ref (He.ga K t)) = some (c == t || t == "FourTestsError")
  ve : ∀ c ∈ cs, PySem.W.kitOne K (.ref (He.ga K c)) (.type "ValueError") = some true
  non : ∀ t ∈ ts, PySem.W.kitOne K (.type "NoneType") (.ref (He.ga K t)) = some false
  nve : PySem.W.kitOne K (.type "NoneType") (.type "ValueError") = some false
  glo : ∀ t ∈ ts, mg t = some (.ref (He.ga K t))
  fld : ∀ c ∈ cs, noFld c = true ∨ (XfC K (He.ga K c) ∧ PySem.W.findIn K (.ref (He.ga K c)) (fldN c) = some none)
section
variable {X : Cx} {C : Addr} {o e : Expr} {vo : DE} {cs ts : List Str} {t x : Str} {p p2 pos : Pos}
end
end Dl
namespace Dl
open PySem L2
structure DefE where
  cls : Str
  qual : Str
  params : Arguments
  body : List Stmt
  scope : Scope
def iA (K : PySem.W.Frag) (c : Str) : Addr := He.ma K (He.ga K c) "__init__"
def fnE (K : PySem.W.Frag) (a : Addr) : He.FnW := match K.lookup a with
  | some ⟨_, _, .func fd, _⟩ => some (fd.name, fd.qualname, fd.params, fd.body, fd.scope, fd.globals, [], fd.builtins)
  | _ => none
def DefE.val (d : DefE) : He.FnW := some ("__init__", d.qual, d.params, .stmts d.body, d.scope, mainGlobals, [], builtinsNs)
def oexB (K : PySem.W.Frag) (C : Addr) : Bool := (match K.lookup C with
  | some ⟨.type "type", _, .cls cd, sl⟩ => (match cd.mro, sl.toList with
    | .ref C' :: bm, [_, _, _, _, some (.builtin n), _] => C' == C && (n == "ValueError.__new__" && (!cd.hasDel && (cd.hasDict && HandSPX.refsVE bm)))
    | _, _ => false)
  | _ => false) && (He.eqO (PySem.W.findIn K (.ref C) "__setattr__") (some (some (.builtin "object.__setattr__"))) && (decide (PySem.W.subIn K (.ref C) (.type "BaseException") = some true) && (decide (PySem.W.typeIn K (.ref C) = some (.type "type")) && PySem.W.keepIn K (.ref C))))
def cellB (K : PySem.W.Frag) (C : Addr) : List (Str × Addr) → Bool
  | [(x, cc)] => decide (x = "__class__") && (match K.lookup cc with
    | some ⟨_, _, .cell (some (.ref D)), _⟩ => D == C
    | _ => false)
  | _ => false
def codeB (K : PySem.W.Frag) (file q : Str) : Value → Bool
  | .ref cda => PySem.W.codeIn K (.ref cda) q && (match K.lookup cda with
    | some ⟨_, _, .fields vs, _⟩ => (match vs[2]? with
      | some (Value.str f _) => decide (f = file)
      | _ => false)
    | _ => false)
  | _ => false
def fieldB (K : PySem.W.Frag) (c : Str) : Bool := He.eqO (PySem.W.findIn K (.ref (He.ga K c)) (fldN c)) (some none)
def oneB (K : PySem.W.Frag) (T : Addr) : Bool := match K.lookup T with
  | some ⟨_, _, .seq its _, _⟩ => its.toList.length == 1
  | _ => false
def DefE.ok (file : Str) (K : PySem.W.Frag) (d : DefE) : Bool := (match K.lookup (iA K d.cls) with
  | some ⟨_, _, .func fd, _⟩ => codeB K file d.qual fd.code && (cellB K (He.ga K d.cls) fd.closure && ((match fd.defaults with
    | .ref T => oneB K T
    | _ => false) && decide (fd.kwdefaults = .none)))
  | _ => false) && (oexB K (He.ga K d.cls) && (decide (PySem.W.mroIn K (He.ga K d.cls) (.ref (He.ga K d.cls)) = some true) && (decide (PySem.W.subIn K (.ref (He.ga K d.cls)) (.type "ValueError") = some true) && ((match PySem.W.clsIn K (He.ga K d.cls) with
    | some cd => He.eqO (PySem.W.alongIn K "__init__" ((cd.mro.dropWhile (· != .ref (He.ga K d.cls))).drop 1)) (some (some (.builtin "ValueError.__init__")))
    | none => false) && (He.eqO (PySem.W.nsIn K cStatics "thirdparty.any") (some none) && (fieldB K d.cls && (He.eqO (PySem.W.findIn K (.ref (He.ga K d.cls)) "__init__") (some (some (.ref (iA K d.cls)))) && (decide (PySem.W.typeIn K (.ref (iA K d.cls)) = some (.type "function")) &&
      (decide (PySem.W.exmOne K (.ref (He.ga K d.cls)) (.ref (He.ga K "FourTestsError")) = some true) && (!noFld d.cls && PySem.W.keepIn K (.ref (iA K d.cls))))))))))))
structure TxE (d : DefE) : Prop where
  body_ : ∃ p0 p1 p2 p3 p4 p5 p6 p7 p8 p9, d.body = [.Expr (.Call (.Attribute (.Call (.Name "super" p0) [] [] p1) "__init__" p2) [.Name (fldN d.cls) p3] [] p4) p5, .Assign [.Attribute (.Name "self" p6) (fldN d.cls) p7] (.Name (fldN d.cls) p8) p9] ∧
    ∀ env : Env, ∃ pl : Sem Bool, eval (.Call (.Attribute (.Call (.Name "super" p0) [] [] p1) "__init__" p2) [.Name (fldN d.cls) p3] [] p4) env = (do
      let ov ← attributeBase (.Call (.Name "super" p0) [] [] p1) "__init__" env (eval (.Call (.Name "super" p0) [] [] p1) env)
      standAt p2.atName
      let (g, first) ← holding [ov] (getMethod ov "__init__" pl)
      callWith p4 g first (backTo p4 (starEach [.Name (fldN d.cls) p3] env)) [])
  head : (d.params.posonlyargs ++ d.params.args).head?.map (·.arg) = some ("self" : Str)
  sc1 : d.scope.names.lookup ("self" : Str) = some NameKind.local
  sc2 : d.scope.names.lookup (fldN d.cls) = some NameKind.local
  sc3 : d.scope.names.lookup ("super" : Str) = some NameKind.globalImplicit
  sc4 : d.scope.names.lookup ("__class__" : Str) = some NameKind.free
  cell : ∀ x ∈ d.scope.names, x.2 ≠ .cell
  flags : d.scope.isCoroutine = false ∧ d.scope.isGenerator = false ∧ d.scope.kind = .function
  names : (fldN d.cls == ("self" : Str)) = false ∧ (fldN d.cls == ("__debug__" : Str)) = false ∧ (fldN d.cls == ("__classdict__" : Str)) = false
  binds : ∀ (T : Addr) (doc pm : Value) (an : Option Addr) (cdv ct : Value) (cc : Addr) (us : List Value) (v : Value), us.length = 2 → ∃ k, bindArgs (PySem.W.ksFn "__init__" d.qual d.params d.body d.scope (.ref T) .none doc pm an cdv ct cc) ⟨us, []⟩ = seqItems? (.ref T) >>= k ∧ k (some [v].toArray) = pure ((["self", fldN d.cls] : List Str).zip us)
abbrev AlE : Type := He.AlD × List He.FnW
def ob4 (as : List Addr) (ex : PySem.W.Frag → Bool) (fa : List He.Fa) (fn : List He5.DefA) (file : Str) (es : List DefE) (g : Addr → Option Obj) : AlE := (ob2 (fun K => ex K && es.all fun d => d.ok file K) fa fn (He.frG g as), es.map fun d => fnE (He.frG g as) (iA (He.frG g as) d.cls))
def Says4 (ex : PySem.W.Frag → Bool) (fa : List He.Fa) (fn : List He5.DefA) (file : Str) (es : List DefE) (K : PySem.W.Frag) : Prop := Says2 (fun K => ex K && es.all fun d => d.ok file K) fa fn K ∧ es.map (fun d => fnE K (iA K d.cls)) = es.map DefE.val
def hook4 (as : List Addr) (ex : PySem.W.Frag → Bool) (fa : List He.Fa) (fn : List He5.DefA) (file : Str) (es : List DefE) : PySem.W.Hook where
  α := AlE
  obs := fun s => ob4 as ex fa fn file es s.heap.get?
  val := fun _ => (He5.valA fn, es.map DefE.val)
  says := fun _ h => ∃ K : PySem.W.Frag, K.In h ∧ Says4 ex fa fn file es K
  of := fun _ _ e => ⟨_, He.frG_in, congrArg (fun z : AlE => z.1) e, congrArg (fun z : AlE => z.2) e⟩
  keeps := fun _ _ _ z k => let ⟨K, hK, c⟩ := z; ⟨K, PySem.W.Frag.In.keeps hK k, c⟩
theorem ob4_eq {as : List Addr} {ex : PySem.W.Frag → Bool} {fa : List He.Fa} {fn : List He5.DefA} {file : Str} {es : List DefE} {g : Addr → Option Obj} {s : Shared} (h : ∀ a, g a = s.heap.get? a) : ob4 as ex fa fn file es g = (hook4 as ex fa fn file es).obs s := by
  have e : g = s.heap.get? := funext h
  rw [e] <;> rfl
end Dl
namespace Dl
open PySem L2
section
variable {P : Program} {w : World} {K : PySem.W.Frag} {mg : Str → Option Value} {base : Heap} {C : Addr} {k n : Nat} {S : DSp} {Sx : DSx} {x qual : Str} {params : Arguments} {body : List Stmt} {scope : Scope} {dvs : List V} {kws : List (Str × V)} {f : Addr} {fd : FuncData} {ps : List Str}
end
theorem e_vL (v : DE) (γ : Gm) (M : Mem) (R : DR) (Xd : DX) : vL v γ M R Xd = v γ M R := propext Iff.rfl
theorem e_tL (v : DT) (γ : Gm) (M : Mem) (R : Bool → Mem → Prop) (Xd : DX) : tL v γ M R Xd = v γ M R := propext Iff.rfl
theorem e_aL (v : DA) (γ : Gm) (M : Mem) (R : List D → Mem → Prop) (Xd : DX) : aL v γ M R Xd = v γ M R := propext Iff.rfl
theorem e_vDropX (a : DEX) (Ed : DEnds) (γ : Gm) (M : Mem) : vDropX a Ed γ M = (a γ M (fun _ M1 => Ed.nx γ M1) (Ed.xx γ)) := propext Iff.rfl
theorem e_xxx (M : Mem) (Xd : DX) (γ : Gm) (xd : XD) (M' : Mem) : (xEnds M Xd).xx γ xd M' = finX M Xd xd M' := propext Iff.rfl
theorem e_xnx (M : Mem) (Xd : DX) (γ : Gm) (M' : Mem) : (xEnds M Xd).nx γ M' = False := propext Iff.rfl
theorem e_xrt (M : Mem) (Xd : DX) (d : D) (M' : Mem) : (xEnds M Xd).rt d M' = False := propext Iff.rfl
theorem f_nEx {c : Str} {v : D} : isNon (.exn c v) = false := id rfl
theorem f_nE0 {c : Str} : isNon (.exn0 c) = false := id rfl
theorem f_tyD {ks : List Key} {ds : List D} : tyD (.dct ks ds) = some .dct := id rfl
theorem f_nD {ks : List Key} {ds : List D} : isNon (.dct ks ds) = false := id rfl
theorem f_wD {ks : List Key} {ds : List D} : isIntD (.dct ks ds) = false := id rfl
theorem f_wLn {t p o : Int} : isIntD (.ln t p o) = false := id rfl
def unrollL (g : DG) (b : DS) (Ed : DEnds) : List D → Gm → Mem → Prop
  | [], γ, M => Ed.nx γ M
  | d :: ds, γ, M => g d γ M fun γ2 M2 => b { Ed with nx := unrollL g b Ed ds, ct := unrollL g b Ed ds, bk := Ed.nx } γ2 M2
theorem unrollL_nil (g : DG) (b : DS) (Ed : DEnds) (γ : Gm) (M : Mem) : unrollL g b Ed [] γ M = Ed.nx γ M := by rw [unrollL]
theorem unrollL_cons (g : DG) (b : DS) (Ed : DEnds) (d : D) (ds : List D) (γ : Gm) (M : Mem) : unrollL g b Ed (d :: ds) γ M = g d γ M fun γ2 M2 => b { Ed with nx := unrollL g b Ed ds, ct := unrollL g b Ed ds, bk := Ed.nx } γ2 M2 := by rw [unrollL]
section
variable {X : Cx} {C : Addr} {e : Expr} {x : Str} {p pos : Pos}
def subO (T : Ty) : Option Ty → Bool
  | some t => t.sub T
  | none => false
theorem f_subO (t T : Ty) : subO T (some t) = t.sub T := id rfl
theorem f_subN (T : Ty) : subO T none = false := id rfl
def vIsiL (T : Ty) (a : DE) : DE := fun γ M R => a γ M fun d M1 => tyL d = true ∧ R (.bl (subO T (tyD d))) M1
theorem e_vIsiL (T : Ty) (a : DE) (γ : Gm) (M : Mem) (R : DR) : vIsiL T a γ M R = (a γ M fun d M1 => tyL d = true ∧ R (.bl (subO T (tyD d))) M1) := propext Iff.rfl
theorem f_tyLn {t p o : Int} : tyD (.ln t p o) = none := id rfl
theorem l_non : isLn .non = false := id rfl
theorem l_bl {b : Bool} : isLn (.bl b) = false := id rfl
theorem l_int {i : Int} : isLn (.int i) = false := id rfl
theorem l_str {s : Str} : isLn (.str s) = false := id rfl
theorem l_tup {xs : List D} : isLn (.tup xs) = false := id rfl
theorem l_lst {xs : List D} : isLn (.lst xs) = false := id rfl
theorem l_scr {xs : List Int} : isLn (.scr xs) = false := id rfl
theorem l_own {a : Addr} : isLn (.own a) = false := id rfl
theorem l_dct {ks : List Key} {xs : List D} : isLn (.dct ks xs) = false := id rfl
theorem t_ln {t p o : Int} : tyL (.ln t p o) = true := id rfl
theorem t_non : tyL .non = true := id rfl
theorem t_bl {b : Bool} : tyL (.bl b) = true := id rfl
theorem t_int {i : Int} : tyL (.int i) = true := id rfl
theorem t_str {s : Str} : tyL (.str s) = true := id rfl
theorem t_tup {xs : List D} : tyL (.tup xs) = true := id rfl
theorem t_lst {xs : List D} : tyL (.lst xs) = true := id rfl
theorem t_own {a : Addr} : tyL (.own a) = false := id rfl
theorem t_dct {ks : List Key} {xs : List D} : tyL (.dct ks xs) = true := id rfl
theorem q_isiL (T : Ty) {y : Str} {v : DE} {p2 : Pos} (I : IsiF X.K X.mg C) (ha : QE X C e v) (hg : Gl X x) (hm : X.mg x = none) (hv : bootBuiltins x = some (.builtin "isinstance")) (hg2 : Gl X y) (hm2 : X.mg y = none) (hv2 : bootBuiltins y = some (.type T.nm)) (hn : x ≠ "__name__" := by decide) (hdb : (x == ("__debug__" : Str)) = false := by decide)
    (hn2 : y ≠ "__name__" := by decide) (hdb2 : (y == ("__debug__" : Str)) = false := by decide)
    (he : starEach (e :: [.Name y p2]) X.env = (false, eval e X.env) :: starEach [.Name y p2] X.env := by rfl) (he2 : starEach [.Name y p2] X.env = (false, eval (.Name y p2) X.env) :: starEach [] X.env := by rfl) (hpl : (backTo pos (starEach [.Name y p2] X.env)).any (·.1) = false := by rfl) : QE X C (.Call (.Name x p) [e, .Name y p2] [] pos) (vIsiL T v) := by
  obtain ⟨ta, pa, sa⟩ := ha.ex
  refine ⟨_, pe_callB call_isi hg hm hv (pa_cons pa (pa_cons (pe_bltn (v := .ty T.nm) hg2 hm2 hv2 rfl hn2 hdb2) pa_nil he2) he) hn hdb he hpl, fun γ M R σ H Q re h k => sa γ M _ σ H _ re h fun d M1 x1 H1 o1 i1 e1 h1 => ?_⟩
  obtain ⟨h0, h1⟩ := h1
  cases q : tyD d with
  | none =>
    cases d with
    | ln t q o =>
      have i2 := i1
      unfold Is at i2
      obtain ⟨a, dx, q2, ex, ma, hx, mq, hq⟩ := i2
      refine ⟨x1, .ty T.nm, .ref C, _, false, rfl, .ty _, ?_, I.no2 T, k _ M1 _ H1 o1 is_bl e1 h1⟩
      rw [ex]; exact .base (.ins hx I.cls I.attr I.get I.tak I.top)
    | scr _ => exact absurd h0 Bool.false_ne_true
    | own _ => exact absurd h0 Bool.false_ne_true
    | exn _ _ => exact absurd h0 Bool.false_ne_true
    | exn0 _ => exact absurd h0 Bool.false_ne_true
    | cls => exact absurd h0 Bool.false_ne_true
    | _ => cases q
  | some t =>
    rw [q] at h1
    exact ⟨x1, .ty T.nm, _, _, t.sub T, rfl, .ty _, tyD_ok o1 i1 q, kit_ty (kit_sub t T), k _ M1 _ H1 o1 is_bl e1 h1⟩
end
end Dl
namespace Dl
open PySem L2
section
variable {X : Cx} {C : Addr} {pos : Pos}
end
end Dl
namespace Dl
open PySem L2
section
variable {X : Cx} {C : Addr} {e : Expr} {ve : DE} {p pos : Pos}
end
end Dl
namespace Dl
open PySem L2
def oIsB (f : Bool → Bool) : DO := fun d e M R => match d, e with
  | .bl a, .bl true => R (.bl (f a)) M
  | _, _ => False
theorem f_isB {f : Bool → Bool} {a : Bool} {M : Mem} {R : DR} : oIsB f (.bl a) (.bl true) M R = R (.bl (f a)) M := rfl
section
variable {X : Cx} {C : Addr}
variable {a : Expr} {va : DE} {pos : Pos}
variable {b : Expr} {rest : List Expr} {vb : DE}
end
theorem pk32 {α : Type} {a b c d e : α} : pickL [0, 1, 2, 3, 4] [a, b, c] [d, e] = [a, b, c, d, e] := rfl
theorem pk42 {α : Type} {a b c d e f : α} : pickL [0, 1, 2, 3, 4, 5] [a, b, c, d] [e, f] = [a, b, c, d, e, f] := rfl
theorem pk52 {α : Type} {a b c d e f g : α} : pickL [0, 1, 2, 3, 4, 5, 6] [a, b, c, d, e] [f, g] = [a, b, c, d, e, f, g] := rfl
section
variable {P : Program} {w : World} {K : PySem.W.Frag} {mg : Str → Option Value} {base : Heap} {x qual : Str} {params : Arguments} {body : List Stmt} {scope : Scope} {kws : List (Str × V)} {f : Addr} {fd : FuncData} {ps : List Str} {C : Addr} {k n : Nat} {S : DSp}
end
end Dl
namespace Dl
open PySem L2
def putD : Nat → D → List D → List D
  | _, d, [] => [d]
  | 0, d, _ :: r => d :: r
  | n + 1, d, x :: r => x :: putD n d r
theorem putD_nil {n : Nat} {d : D} : putD n d [] = [d] := by cases n <;> rfl
theorem putD_z {d x : D} {r : List D} : putD 0 d (x :: r) = d :: r := rfl
theorem putD_s {n : Nat} {d x : D} {r : List D} : putD (n + 1) d (x :: r) = x :: putD n d r := rfl
def putV : Nat → V → List V → List V
  | _, v, [] => [v]
  | 0, v, _ :: r => v :: r
  | n + 1, v, x :: r => x :: putV n v r
def fldD : D → Bool
  | .own _ => true
  | d => pureD d
def okF (M : Mem) : D → Prop
  | .own b => (M b).isSome = true
  | _ => True
theorem fisL_get {G : Gx} {M : Mem} {H : Hp} : ∀ {ds : List D} {vs : List V} {i : Nat} {d : D}, FIsL G M H ds vs → nthD ds i = some d → ∃ v, vs[i]? = some v ∧ FIs G M H d v
  | [], _, _, _, _, e => by simp [nthD] at e
  | _ :: _, [], _, _, h, _ => h.elim
  | d :: ds, v :: vs, 0, d', h, e => by
    have e' : some d = some d' := e
    cases e'
    exact ⟨v, by simp, h.1⟩
  | _ :: ds, _ :: vs, i + 1, d, h, e => by
    obtain ⟨u, h1, h2⟩ := fisL_get (i := i) (d := d) h.2 e
    exact ⟨u, by simpa using h1, h2⟩
theorem fisL_len {G : Gx} {M : Mem} {H : Hp} : ∀ {ds : List D} {vs : List V}, FIsL G M H ds vs → ds.length = vs.length
  | [], [], _ => rfl
  | [], _ :: _, h => h.elim
  | _ :: _, [], h => h.elim
  | _ :: _, _ :: _, h => congrArg Nat.succ (fisL_len h.2)
theorem fisL_put {G : Gx} {M : Mem} {H : Hp} : ∀ {ds : List D} {vs : List V} {i : Nat} {d : D} {v : V}, FIsL G M H ds vs → FIs G M H d v → FIsL G M H (putD i d ds) (putV i v vs)
  | [], [], i, d, v, _, e => by cases i <;> exact ⟨e, trivial⟩
  | [], _ :: _, _, _, _, h, _ => h.elim
  | _ :: _, [], _, _, _, h, _ => h.elim
  | _ :: _, _ :: _, 0, _, _, h, e => ⟨e, h.2⟩
  | _ :: _, _ :: _, i + 1, _, _, h, e => ⟨h.1, fisL_put (i := i) h.2 e⟩
theorem putD_len : ∀ {ds : List D} {i : Nat} {d : D} {n : Nat}, i ≤ ds.length → i < n → ds.length ≤ n → (putD i d ds).length ≤ n
  | [], i, d, n, _, h, _ => by rw [putD_nil]; simp; omega
  | _ :: r, 0, d, n, _, _, h => h
  | _ :: r, i + 1, d, n, hi, hn, h => by
    rw [putD_s]
    have := putD_len (ds := r) (i := i) (d := d) (n := n - 1) (by simpa using hi) (by omega) (by simp at h; omega)
    simp; omega
theorem zip_get : ∀ {ns : List Str} {vs : List V} {i : Nat} {f : Str} {v : V}, ns.Nodup → ns[i]? = some f → vs[i]? = some v → (ns.zip vs).lookup f = some v
  | [], _, _, _, _, _, h, _ => by simp at h
  | _ :: _, [], _, _, _, _, _, h => by simp at h
  | n :: ns, x :: vs, 0, f, v, _, h, h' => by
    simp at h h'
    subst h; subst h'
    simp [List.lookup_cons]
  | n :: ns, x :: vs, i + 1, f, v, nd, h, h' => by
    have hn : f ∈ ns := List.mem_of_getElem? (by simpa using h)
    have ne : f ≠ n := fun e => (List.nodup_cons.mp nd).1 (e ▸ hn)
    show List.lookup f ((n, x) :: ns.zip vs) = _
    rw [List.lookup_cons, beq_eq_false_iff_ne.mpr ne]
    exact zip_get (List.nodup_cons.mp nd).2 (by simpa using h) (by simpa using h')
theorem zip_none : ∀ {ns : List Str} {vs : List V} {f : Str}, f ∉ ns → (ns.zip vs).lookup f = none
  | [], _, _, _ => by simp
  | _ :: _, [], _, _ => by simp
  | n :: ns, x :: vs, f, h => by
    simp only [List.mem_cons, not_or] at h
    show List.lookup f ((n, x) :: ns.zip vs) = _
    rw [List.lookup_cons, beq_eq_false_iff_ne.mpr h.1]
    exact zip_none h.2
theorem zip_put : ∀ {ns : List Str} {vs : List V} {i : Nat} {f : Str} {v : V}, ns.Nodup → ns[i]? = some f → i ≤ vs.length → putF f v (ns.zip vs) = ns.zip (putV i v vs)
  | [], _, _, _, _, _, h, _ => by simp at h
  | n :: ns, [], i, f, v, _, h, hi => by
    have e0 : i = 0 := by simpa using hi
    subst e0
    simp at h
    subst h
    show putF n v [] = (n, v) :: ns.zip []
    simp [putF]
  | n :: ns, x :: vs, 0, f, v, _, h, _ => by
    simp at h
    subst h
    show (if n = n then (n, v) :: ns.zip vs else _) = _
    rw [if_pos rfl]; rfl
  | n :: ns, x :: vs, i + 1, f, v, nd, h, hi => by
    have hn : f ∈ ns := List.mem_of_getElem? (by simpa using h)
    have ne : n ≠ f := fun e => (List.nodup_cons.mp nd).1 (e ▸ hn)
    show (if n = f then (n, v) :: ns.zip vs else (n, x) :: putF f v (ns.zip vs)) = _
    rw [if_neg ne, zip_put (List.nodup_cons.mp nd).2 (by simpa using h) (by simpa using hi)]
    rfl
structure OCls (K : PySem.W.Frag) (c : Str) : Prop where
  cls : Cls K (He.ga K c)
  no : ∀ f ∈ clsF c, NoAttr K (He.ga K c) f
  nd : (clsF c).Nodup
  few : (clsF c).length < 999
theorem own_obj {G : Gx} {M : Mem} {H : Hp} {a : Addr} {c : Str} {ds : List D} (o : Own G M H) (h : M a = some (.obj c ds)) : ds.length ≤ (clsF c).length ∧ ∃ dx vs, H a = some (.ins (He.ga G.K c) dx ((clsF c).zip vs)) ∧ FIsL G M H ds vs := o a _ h
theorem Own.putObj {G : Gx} {M : Mem} {H : Hp} {p dx : Addr} {c : Str} {ds : List D} {vs : List V} (o : Own G M H) (h : (M p).isSome = true) (hl : ds.length ≤ (clsF c).length) (hv : FIsL G M H ds vs) : Own G (mset M p (.obj c ds)) (upd H p (.ins (He.ga G.K c) dx ((clsF c).zip vs))) :=
  o.setM (Ext.put h) ⟨hl, dx, vs, upd_same, FIsL.ext (Ext.put h) ds vs hv⟩
def vFldO (c : Str) (i : Nat) (o : DE) : DE := fun γ M R => o γ M fun od M1 => match od with
  | .own x => (match M1 x with
    | some (.obj c' ds) => c' = c ∧ (match nthD ds i with
      | some d => okF M1 d ∧ R d M1
      | none => False)
    | _ => False)
  | _ => False
theorem e_vFldO (c : Str) (i : Nat) (o : DE) (γ : Gm) (M : Mem) (R : DR) : vFldO c i o γ M R = (o γ M fun od M1 => match od with
  | .own x => (match M1 x with
    | some (.obj c' ds) => c' = c ∧ (match nthD ds i with
      | some d => okF M1 d ∧ R d M1
      | none => False)
    | _ => False)
  | _ => False) := propext Iff.rfl
def vSetF (c : Str) (i : Nat) (o e : DE) : DS := fun Ed γ M => e γ M fun d M1 => o γ M1 fun od M2 => match od with
  | .own x => (match M2 x with
    | some (.obj c' ds) => c' = c ∧ i ≤ ds.length ∧ fldD d = true ∧ Ed.nx γ (mset M2 x (.obj c (putD i d ds)))
    | _ => False)
  | _ => False
theorem e_vSetF (c : Str) (i : Nat) (o e : DE) (Ed : DEnds) (γ : Gm) (M : Mem) : vSetF c i o e Ed γ M = (e γ M fun d M1 => o γ M1 fun od M2 => match od with
  | .own x => (match M2 x with
    | some (.obj c' ds) => c' = c ∧ i ≤ ds.length ∧ fldD d = true ∧ Ed.nx γ (mset M2 x (.obj c (putD i d ds)))
    | _ => False)
  | _ => False) := propext Iff.rfl
structure MOkO (P : Program) (w : World) (K : PySem.W.Frag) (mg : Str → Option Value) (base : Heap) (C : Addr) (k : Nat) (c m : Str) (n : Nat) (S : DSp) (dd : List D) : Prop where
  ex : ∃ (f : Addr) (fd : FuncData) (ps : List Str) (us : List Value) (dv : List V), OCls K c ∧ Meth K (He.ga K c) m f ∧ m ∉ clsF c ∧ FnOk P w K mg base CX0 k f fd ps (spD ⟨K, C⟩ n S) ∧ Binds K fd ps us ∧ Vals dv us ∧ constL dd = some dv
def vObjO (c : Str) (n : Nat) (S : DSp) (dd : List D) (o : DE) (a : DA) : DE := fun γ M R => o γ M fun od M1 => match od with
  | .own x => (match M1 x with
    | some (.obj c' _) => c' = c ∧ a γ M1 fun ds M2 => (ds ++ dd).length + 1 = n ∧ S (.own x :: (ds ++ dd)) M2 R noX
    | _ => False)
  | _ => False
theorem e_vObjO (c : Str) (n : Nat) (S : DSp) (dd : List D) (o : DE) (a : DA) (γ : Gm) (M : Mem) (R : DR) : vObjO c n S dd o a γ M R = (o γ M fun od M1 => match od with
  | .own x => (match M1 x with
    | some (.obj c' _) => c' = c ∧ a γ M1 fun ds M2 => (ds ++ dd).length + 1 = n ∧ S (.own x :: (ds ++ dd)) M2 R noX
    | _ => False)
  | _ => False) := propext Iff.rfl
structure MkO (P : Program) (w : World) (K : PySem.W.Frag) (mg : Str → Option Value) (base : Heap) (C : Addr) (k : Nat) (c : Str) (n : Nat) (S : DSp) : Prop where
  ex : ∃ (f : Addr) (fd : FuncData) (ps : List Str), mg c = some (.ref (He.ga K c)) ∧ Mk K (He.ga K c) f ∧ FnOk P w K mg base CX0 k f fd ps (spD ⟨K, C⟩ n S) ∧ Binds K fd ps []
def vMakeO (c : Str) (n : Nat) (S : DSp) (a : DA) : DE := fun γ M R => a γ M fun ds M1 => ds.length + 1 = n ∧ ∀ x, M1 x = none → S (.own x :: ds) (mset M1 x (.obj c [])) (fun d M2 => d = .non ∧ R (.own x) M2) noX
theorem e_vMakeO (c : Str) (n : Nat) (S : DSp) (a : DA) (γ : Gm) (M : Mem) (R : DR) : vMakeO c n S a γ M R = (a γ M fun ds M1 => ds.length + 1 = n ∧ ∀ x, M1 x = none → S (.own x :: ds) (mset M1 x (.obj c [])) (fun d M2 => d = .non ∧ R (.own x) M2) noX) := propext Iff.rfl
section
variable {X : Cx} {C : Addr} {j k n : Nat} {S : DSp} {dd : List D} {o e fe : Expr} {es : List Expr} {vo ve : DE} {va : DA} {c m f : Str} {pos apos : Pos} {i : Nat}
theorem fis_is {G : Gx} {M : Mem} {H : Hp} {d : D} {v : V} (h : FIs G M H d v) (ok : okF M d) : Is G M H d v := by
  cases d with
  | own b => unfold Is; exact ⟨h, ok⟩
  | _ => exact h.2
theorem is_fis {G : Gx} {M : Mem} {H : Hp} {d : D} {v : V} (h : Is G M H d v) (p : fldD d = true) : FIs G M H d v := by
  cases d with
  | own b => unfold Is at h; exact h.1
  | _ => exact ⟨p, h⟩
theorem q_fldO (T : OCls X.K c) (i : Nat) (hf : (clsF c)[i]? = some f) (ho : QE X C o vo) (hb : attributeBase o f X.env (eval o X.env) = eval o X.env := by rfl) : QE X C (.Attribute o f pos) (vFldO c i vo) := by
  obtain ⟨to, po, so⟩ := ho.ex
  refine ⟨_, pe_fld po hb, fun γ M R σ H Q re h kk => so γ M _ σ H _ re h fun od M1 x H1 o1 i1 e1 h1 => ?_⟩
  cases od with
  | own a =>
    simp only at h1
    split at h1
    · rename_i c' ds q
      obtain ⟨rfl, h1⟩ := h1
      split at h1
      · rename_i d hd
        obtain ⟨ok, hr⟩ := h1
        obtain ⟨hl, dx, vs, ha, hv⟩ := own_obj o1 q
        obtain ⟨v, hv1, hv2⟩ := fisL_get hv hd
        unfold Is at i1
        exact ⟨a, _, dx, _, v, i1.1, ha, T.cls, T.no f (List.mem_of_getElem? hf), zip_get T.nd hf hv1, kk d M1 v H1 o1 (fis_is hv2 ok) e1 hr⟩
      · exact h1.elim
    · exact h1.elim
  | _ => exact False.elim h1
theorem qs_fldO (T : OCls X.K c) (i : Nat) (hf : (clsF c)[i]? = some f) (ho : QE X C o vo) (he : QE X C e ve) (hs : swapsWith e (some (.Attribute o f apos)) pos.line X.env = pure false := by rfl) : QS X C (.Assign [.Attribute o f apos] e pos) (vSetF c i vo ve) := by
  obtain ⟨to, po, so⟩ := ho.ex
  obtain ⟨te, pe, se⟩ := he.ex
  refine ⟨_, ps_fld po pe hs, fun Ed γ M σ H E r l h => se γ M _ σ H _ r h fun d M1 y H1 o1 i1 e1 h1 => so γ M1 _ σ H1 _ (r.mk' e1 o1) h1 fun od M2 x H2 o2 i2 e2 h2 => ?_⟩
  cases od with
  | own a =>
    simp only at h2
    split at h2
    · rename_i c' ds q
      obtain ⟨rfl, hi, pf, hn⟩ := h2
      obtain ⟨hl, dx, vs, ha, hv⟩ := own_obj o2 q
      have ho2 : (M2 a).isSome = true := by rw [q]; rfl
      unfold Is at i2
      have hfi : i < (clsF c').length := (List.getElem?_eq_some_iff.mp hf).1
      have hp := zip_put (v := y) T.nd hf (by rw [← fisL_len hv]; exact hi)
      have few := T.few
      refine ⟨a, _, dx, _, i2.1, ha, T.cls, T.no f (List.mem_of_getElem? hf), ?_, ?_⟩
      · rw [List.length_zip]; omega
      · rw [hp]
        have hd2 : FIs ⟨X.K, C⟩ M2 H2 d y := is_fis (Is.ext e2 _ _ i1) pf
        exact l.nx γ _ σ _ ⟨(r.sl.ext (e1.trans e2)).ext (Ext.put ho2), o2.putObj ho2 (putD_len hi hfi hl) (fisL_put hv hd2)⟩ ((e1.trans e2).trans (Ext.put ho2)) hn
    · exact h2.elim
  | _ => exact False.elim h2
theorem q_methO (h : MOkO X.prog X.w X.K X.mg X.base C k c m n S dd) (hr : Room j X.A) (hkj : k ≤ j) (ho : QE X C o vo) (ha : QA X C (e :: es) va)
    (hpe : ∀ {C' f : Addr} {fd : FuncData} {ps : List Str} {sp : Sp} {to : TE} {ta : TA} {us : List Value} {dv : List V}, PE X o to → Cls X.K C' → Meth X.K C' m f → FnOk X.prog X.w X.K X.mg X.base CX0 k f fd ps sp → Room k X.A → Binds X.K fd ps us → Vals dv us → PA X (e :: es) ta → PE X (.Call (.Attribute o m apos) (e :: es) [] pos) (tMeth C' m sp dv E0 to ta) := by exact fun h1 h2 h3 h4 h5 h6 h7 h8 => pe_meth h1 h2 h3 h4 h5 h6 h7 pass0 h8) :
    QE X C (.Call (.Attribute o m apos) (e :: es) [] pos) (vObjO c n S dd vo va) := by
  obtain ⟨f, fd, ps, us, dv, T, hm, hp, F, hb, hv, hd⟩ := h.ex
  obtain ⟨to, po, so⟩ := ho.ex
  obtain ⟨ta, pa, sa⟩ := ha.ex
  refine ⟨_, hpe po T.cls hm F (hr.mono hkj) hb hv pa, fun γ M R σ H Q r h kk => so γ M _ σ H _ r h fun od M1 x H1 o1 i1 e1 h1 => ?_⟩
  cases od with
  | own a =>
    simp only at h1
    split at h1
    · rename_i c' ds q
      obtain ⟨rfl, h1⟩ := h1
      obtain ⟨hl, dx, vs, hx, _⟩ := own_obj o1 q
      have i1' := i1
      unfold Is at i1'
      refine ⟨a, dx, _, i1'.1, hx, zip_none hp, sa γ M1 _ σ H1 _ (r.mk' e1 o1) h1 fun ds2 M2 xs H2 o2 i2 e2 h2 => ?_⟩
      exact spD_of h2.1 i1 o2 (i2.append (constL_ok hd)) e1 e2 h2.2 kk _
    · exact h1.elim
  | _ => exact False.elim h1
theorem q_methO0 (h : MOkO X.prog X.w X.K X.mg X.base C k c m n S []) (hr : Room j X.A) (hkj : k ≤ j) (ho : QE X C o vo)
    (hpe : ∀ {C' f : Addr} {fd : FuncData} {ps : List Str} {sp : Sp} {to : TE} {us : List Value} {dv : List V}, PE X o to → Cls X.K C' → Meth X.K C' m f → FnOk X.prog X.w X.K X.mg X.base CX0 k f fd ps sp → Room k X.A → Binds X.K fd ps us → Vals dv us → PE X (.Call (.Attribute o m apos) [] [] pos) (tMeth C' m sp dv E0 to tNil) := by exact fun h1 h2 h3 h4 h5 h6 h7 => pe_meth0 h1 h2 h3 h4 h5 h6 h7 pass0) :
    QE X C (.Call (.Attribute o m apos) [] [] pos) (vObjO c n S [] vo vNil) := by
  obtain ⟨f, fd, ps, us, dv, T, hm, hp, F, hb, hv, hd⟩ := h.ex
  cases hd
  obtain ⟨to, po, so⟩ := ho.ex
  refine ⟨_, hpe po T.cls hm F (hr.mono hkj) hb hv, fun γ M R σ H Q r h kk => so γ M _ σ H _ r h fun od M1 x H1 o1 i1 e1 h1 => ?_⟩
  cases od with
  | own a =>
    simp only at h1
    split at h1
    · rename_i c' ds q
      obtain ⟨rfl, h1⟩ := h1
      obtain ⟨hl, dx, vs, hx, _⟩ := own_obj o1 q
      have i1' := i1
      unfold Is at i1'
      refine ⟨a, dx, _, i1'.1, hx, zip_none hp, ?_⟩
      show spD _ n S (x :: []) H1 Q E0
      exact spD_of h1.1 i1 o1 IsL.nil e1 Ext.refl h1.2 kk _
    · exact h1.elim
  | _ => exact False.elim h1
theorem snd_makeO {G : Gx} {M M1 : Mem} {R : DR} {H H1 : Hp} {Q : VK} {ds : List D} {xs : List V} (hc : c = c) (o1 : Own G M1 H1) (i1 : IsL G M1 H1 ds xs) (e1 : Ext M M1 H H1) (hl : ds.length + 1 = n)
    (hs : ∀ x, M1 x = none → S (.own x :: ds) (mset M1 x (.obj c [])) (fun d M2 => d = .non ∧ R (.own x) M2) noX) (kk : ∀ d M' x H', Own G M' H' → Is G M' H' d x → Ext M M' H H' → R d M' → Q x H') :
    ∀ x dx, H1 x = none → H1 dx = none → dx ≠ x → spD G n S (.ref x :: (xs ++ [])) (upd (upd H1 dx (.own x)) x (.ins (He.ga G.K c) dx [])) (fun v H2 => v = .non ∧ Q (.ref x) H2) E0 := by
  intro x dx hx hdx hne
  have mx := o1.fresh hx
  have o2 : Own G M1 (upd H1 dx (.own x)) := o1.new hdx
  have e2 : Ext M1 M1 H1 (upd H1 dx (.own x)) := Ext.new hdx
  have hx2 : upd H1 dx (.own x) x = none := by rw [upd_ne hne.symm]; exact hx
  have e3 : Ext M1 (mset M1 x (.obj c [])) (upd H1 dx (.own x)) (upd (upd H1 dx (.own x)) x (.ins (He.ga G.K c) dx [])) := Ext.newOwn hx2
  have o3 : Own G (mset M1 x (.obj c [])) (upd (upd H1 dx (.own x)) x (.ins (He.ga G.K c) dx [])) := o2.setM e3 ⟨Nat.zero_le _, dx, [], by rw [upd_same, List.zip_nil_right], trivial⟩
  have i3 : Is G (mset M1 x (.obj c [])) (upd (upd H1 dx (.own x)) x (.ins (He.ga G.K c) dx [])) (.own x) (.ref x) := is_own
  rw [List.append_nil]
  refine ⟨.own x :: ds, mset M1 x (.obj c []), _, hl, IsL.cons i3 (IsL.ext (e2.trans e3) _ _ i1), o3, hs x mx, fun d M' y H' o' i' e' h' => ?_⟩
  obtain ⟨rfl, hr⟩ := h'
  unfold Is at i'
  refine ⟨i', kk (.own x) M' (.ref x) H' o' ?_ (((e1.trans e2).trans e3).trans e') hr⟩
  unfold Is
  exact ⟨rfl, e'.ow x (by rw [mset_same]; rfl)⟩
theorem q_makeO0 {p : Pos} (h : MkO X.prog X.w X.K X.mg X.base C k c n S) (hr : Room j X.A) (hkj : k + 1 ≤ j) (hg : Gl X c := by rfl) (hdb : (c == ("__debug__" : Str)) = false := by decide) :
    QE X C (.Call (.Name c p) [] [] pos) (vMakeO c n S vNil) := by
  obtain ⟨f, fd, ps, hm, mk, F, hb⟩ := h.ex
  refine ⟨_, pe_make0 (E := E0) mk F (hr.mono hkj) hg hm hb .nil pass0 hdb, fun γ M R σ H Q r h kk => ?_⟩
  have h1 : ([] : List D).length + 1 = n ∧ _ := h
  exact snd_makeO (xs := []) rfl r.ow IsL.nil Ext.refl h1.1 h1.2 kk
end
theorem okF_own {M : Mem} {b : Addr} : okF M (.own b) = ((M b).isSome = true) := id rfl
theorem okF_int {M : Mem} {i : Int} : okF M (.int i) = True := id rfl
theorem okF_bl {M : Mem} {i : Bool} : okF M (.bl i) = True := id rfl
theorem okF_non {M : Mem} : okF M .non = True := id rfl
theorem okF_tup {M : Mem} {i : List D} : okF M (.tup i) = True := id rfl
theorem okF_lst {M : Mem} {i : List D} : okF M (.lst i) = True := id rfl
theorem fldD_own {b : Addr} : fldD (.own b) = true := id rfl
theorem fldD_int {i : Int} : fldD (.int i) = true := id rfl
theorem fldD_bl {i : Bool} : fldD (.bl i) = true := id rfl
theorem fldD_tup {i : List D} : fldD (.tup i) = pureL i := id rfl
theorem fldD_lst {i : List D} : fldD (.lst i) = pureL i := id rfl
def oclsB (K : PySem.W.Frag) (c : Str) : Bool := (clsF c).all fun f => He.eqO (PySem.W.findIn K (.ref (He.ga K c)) f) (some none)
theorem oclsB_ok {K : PySem.W.Frag} {c : Str} (h1 : Cls K (He.ga K c)) (h : oclsB K c = true) (h3 : (clsF c).Nodup := by decide +kernel) (h4 : (clsF c).length < 999 := by decide +kernel) : OCls K c :=
  ⟨h1, fun f hf => He.eqO_ok (List.all_eq_true.mp h f hf), h3, h4⟩
end Dl
namespace Dl
open PySem L2
section
variable {P : Program} {w : World} {K : PySem.W.Frag} {mg : Str → Option Value} {base : Heap} {C : Addr} {k n : Nat} {S : DSp} {c x qual : Str} {params : Arguments} {body : List Stmt} {scope : Scope} {dvs : List V} {kws : List (Str × V)} {f : Addr} {fd : FuncData} {ps : List Str}
theorem metho_all (T : OCls K c) (Mt : Meth K (He.ga K c) x f) (hp : x ∉ clsF c) (F : FunD K x qual params body scope [] kws f fd) (ok : FnOk P w K mg base CX0 k f fd ps (spD ⟨K, C⟩ n S))
    (h : ∀ (kV doc pm : Value) (an : Option Addr) (cdv ct : Value) (us : List Value), us.length = ps.length → bindArgs (PySem.W.fnOf x qual params body scope .none kV doc pm an cdv ct) ⟨us, []⟩ = pure (ps.zip us)) : MOkO P w K mg base C k c x n S [] :=
  ⟨f, fd, ps, [], [], T, Mt, hp, ok, F.bindsN h, .nil, rfl⟩
theorem mko_of (T : OCls K c) (G : mg c = some (.ref (He.ga K c))) (Mk' : ∃ f', Mk K (He.ga K c) f' ∧ f' = f) (F : FunD K x qual params body scope [] kws f fd) (ok : FnOk P w K mg base CX0 k f fd ps (spD ⟨K, C⟩ n S))
    (h : ∀ (kV doc pm : Value) (an : Option Addr) (cdv ct : Value) (us : List Value), us.length = ps.length → bindArgs (PySem.W.fnOf x qual params body scope .none kV doc pm an cdv ct) ⟨us, []⟩ = pure (ps.zip us)) : MkO P w K mg base C k c n S := by
  obtain ⟨f', mk, rfl⟩ := Mk'
  exact ⟨f', fd, ps, G, mk, ok, F.bindsN h⟩
end
end Dl
namespace Dl
open PySem L2
section
variable {X : Cx} {C : Addr} {o e : Expr} {vo ve : DE} {pos apos : Pos}
def vPopI (o e : DE) : DE := fun γ M R => o γ M fun od M1 => match od with
  | .own a => lstAt M1 a = true ∧ e γ M1 fun d M2 => (match M2 a, d with
    | some (.lst ds), .int i => 0 ≤ i ∧ i < 2 ^ 63 ∧ ∃ x, ds[i.toNat]? = some x ∧ R x (mset M2 a (.lst (ds.eraseIdx i.toNat)))
    | _, _ => False)
  | _ => False
theorem e_vPopI (o e : DE) (γ : Gm) (M : Mem) (R : DR) : vPopI o e γ M R = (o γ M fun od M1 => match od with
  | .own a => lstAt M1 a = true ∧ e γ M1 fun d M2 => (match M2 a, d with
    | some (.lst ds), .int i => 0 ≤ i ∧ i < 2 ^ 63 ∧ ∃ x, ds[i.toNat]? = some x ∧ R x (mset M2 a (.lst (ds.eraseIdx i.toNat)))
    | _, _ => False)
  | _ => False) := propext Iff.rfl
theorem pureL_erase : ∀ {ds : List D} {i : Nat}, pureL ds = true → pureL (ds.eraseIdx i) = true
  | [], _, _ => rfl
  | d :: r, 0, h => by
    unfold pureL at h
    rw [Bool.and_eq_true] at h
    exact h.2
  | d :: r, i + 1, h => by
    unfold pureL at h
    rw [Bool.and_eq_true] at h
    show (pureD d && pureL (r.eraseIdx i)) = true
    rw [h.1, pureL_erase h.2]; rfl
theorem isL_erase {G : Gx} {M : Mem} {H : Hp} : ∀ {ds : List D} {xs : List V} {i : Nat}, IsL G M H ds xs → IsL G M H (ds.eraseIdx i) (xs.eraseIdx i)
  | [], [], _, _ => IsL.nil
  | [], _ :: _, _, h => by unfold IsL at h; exact h.elim
  | _ :: _, [], _, h => by unfold IsL at h; exact h.elim
  | d :: r, x :: s, 0, h => by unfold IsL at h; exact h.2
  | d :: r, x :: s, i + 1, h => by unfold IsL at h; exact IsL.cons h.1 (isL_erase h.2)
theorem q_popI (ho : QE X C o vo) (he : QE X C e ve) (hpe : ∀ {to te : TE}, PE X o to → PE X e te → PE X (.Call (.Attribute o "pop" apos) [e] [] pos) (tBM X.K "list" rPopAt to (tCons te tNil)) := by exact fun h1 h2 => pe_bm PySem.F.plainAttrs_list PySem.F.slot_list_pop PySem.F.type_list_pop mt_popAt h1 (pa_cons h2 pa_nil)) : QE X C (.Call (.Attribute o "pop" apos) [e] [] pos) (vPopI vo ve) := by
  obtain ⟨to, po, so⟩ := ho.ex
  obtain ⟨te, pe, se⟩ := he.ex
  refine ⟨_, hpe po pe, fun γ M R σ H Q r h k => so γ M _ σ H _ r h fun od M1 x H1 o1 i1 e1 h1 => ?_⟩
  cases od with
  | own a =>
    have j1 := i1
    unfold Is at j1
    obtain ⟨hq, h1⟩ := h1
    obtain ⟨ds, xs, q, pu, ha, hl⟩ := own_list o1 hq
    rw [j1.1]
    refine ⟨.inl ⟨rfl, xs, SqL.of ha⟩, se γ M1 _ σ H1 _ (r.mk' e1 o1) h1 fun d M2 y H2 o2 i2 e2 h2 => ?_⟩
    have j2 := Is.ext e2 _ _ i1
    unfold Is at j2
    split at h2
    · rename_i ds2 i q2
      obtain ⟨pu2, xs2, ha2, hl2⟩ := o2 a _ q2
      obtain ⟨i0, i63, z, hz, hr⟩ := h2
      have iy := i2
      unfold Is at iy
      subst iy
      obtain ⟨v, hv, iv⟩ := hl2.get hz
      have il : i.toNat < xs2.length := (List.getElem?_eq_some_iff.mp hv).1
      refine ⟨a, xs2, i, i.toNat, v, rfl, rfl, ha2, by omega, by omega, ?_, hv, ?_⟩
      · have n0 : ¬ i < 0 := by omega
        have n1 : (decide (0 ≤ i) && decide (i < (xs2.length : Int))) = true := by
          rw [Bool.and_eq_true, decide_eq_true_eq, decide_eq_true_eq]
          omega
        unfold seqIndex?
        simp only [n0, if_false]
        exact if_pos n1
      · exact k z (mset M2 a (.lst (ds2.eraseIdx i.toNat))) v _ (o2.put j2.2 (pureL_erase pu2) (isL_erase hl2)) (Is.ext (Ext.put j2.2) _ _ iv) ((e1.trans e2).trans (Ext.put j2.2)) hr
    · exact h2.elim
  | _ => exact False.elim h1
end
section
variable {X : Cx} {C : Addr} {pos : Pos}
def vDct0 : DE := fun _ M R => R (.dct [] []) M
theorem e_vDct0 (γ : Gm) (M : Mem) (R : DR) : vDct0 γ M R = R (.dct [] []) M := id rfl
theorem q_dct0 : QE X C (.Dict [] [] pos) vDct0 := ⟨_, pe_dnewK, fun γ M R σ H Q r h k p hp => by
  refine k _ M _ _ (r.ow.new hp) ?_ (Ext.new hp) h
  unfold Is
  exact ⟨p, [], rfl, r.ow.fresh hp, upd_same, rfl, IsL.nil⟩⟩
def IsPs (G : Gx) (M : Mem) (H : Hp) : List D → List (V × V) → Prop
  | [], [] => True
  | k :: d :: r, (x, y) :: ps => Is G M H k x ∧ Is G M H d y ∧ IsPs G M H r ps
  | _, _ => False
structure QPs (X : Cx) (C : Addr) (pos : Pos) (keys : List (Option Expr)) (values : List Expr) (v : DA) : Prop where
  ex : ∃ trs, PPs X pos keys values trs ∧ ∀ (γ : Gm) (M : Mem) (F : List D → Mem → Prop) (σ : St) (H : Hp) (Q : List (V × V) → Hp → Prop), Rel ⟨X.K, C⟩ M γ σ H → v γ M F →
    (∀ ds M1 ps H1, Own ⟨X.K, C⟩ M1 H1 → IsPs ⟨X.K, C⟩ M1 H1 ds ps → Ext M M1 H H1 → F ds M1 → Q ps H1) → tPairs trs σ H Q
theorem IsPs.ext {G : Gx} {M M' : Mem} {H H' : Hp} (x : Ext M M' H H') : ∀ {ds : List D} {ps : List (V × V)}, IsPs G M H ds ps → IsPs G M' H' ds ps
  | [], [], _ => trivial
  | [], _ :: _, h => h.elim
  | [_], _, h => by
    cases ‹List (V × V)› <;> exact h.elim
  | _ :: _ :: _, [], h => h.elim
  | k :: d :: r, (a, b) :: ps, h => ⟨Is.ext x _ _ h.1, Is.ext x _ _ h.2.1, IsPs.ext x h.2.2⟩
end
def oCatT : DO := fun d e M R => match d, e with
  | .tup xs, .tup ys => xs.length + ys.length ≤ sizeLine ∧ R (.tup (xs ++ ys)) M
  | _, _ => False
theorem f_catT {M : Mem} {R : DR} {xs ys : List D} : oCatT (.tup xs) (.tup ys) M R = (xs.length + ys.length ≤ sizeLine ∧ R (.tup (xs ++ ys)) M) := id rfl
section
variable {X : Cx} {C : Addr} {a b : Expr} {va vb : DE} {pos : Pos}
end
section
variable {X : Cx} {C : Addr} {a b c d : Expr} {va vb vc vd : DE} {pos : Pos}
end
end Dl
namespace L2
open PySem PySem.Spec PyProof.Rows
section
variable {X : Cx} {a b c d : Expr} {ta tb tc td : TE} {pos : Pos}
end
end L2
namespace Dl
open PySem L2
section
variable {X : Cx} {C : Addr} {a b c d : Expr} {va vb vc vd : DE} {pos : Pos}
end
end Dl
namespace L2
open PySem PySem.Spec PyProof.Rows
structure FnG (P : Program) (w : World) (K : PySem.W.Frag) (mg : Str → Option Value) (base : Heap) (CX : CXT) (k : Nat) (f : Addr) (fd : FuncData) (ps : List Str) (sp : Sp) : Prop where
  len : ∀ vs H Q E, sp vs H Q E → vs.length = ps.length
  run : ∀ (A : Around) (outer : List Env) (s : Shared) (H : Hp) (args : Args) (us : List Value) (vs : List V) (Q : VK) (E : XK), Room k A → A.guards = some [] → Env0 P w K mg base A outer s H → BindsTo s fd args (ps.zip us) → Vals vs us → sp vs H Q E →
    codeAny (model P w) A (.call (.ref f) args) (CR CX outer P w H s Q E) s
section
variable {P : Program} {w : World} {K : PySem.W.Frag} {mg mb : Str → Option Value} {base : Heap} {x qual : Str} {params : Arguments} {body : List Stmt} {scope : Scope} {dvs : List V} {kws : List (Str × V)} {f : Addr} {fd : FuncData} {CX : CXT} {k : Nat} {ps : List Str} {sp : Sp}
theorem FnOk.g (F : FnOk P w K mg base CX k f fd ps sp) : FnG P w K mg base CX k f fd ps sp := ⟨F.len, fun A outer s H args us vs Q E hr _ => F.run A outer s H args us vs Q E hr⟩
end
section
variable {X : Cx} {CX : CXT} {k : Nat} {f : Addr} {fd : FuncData} {ps : List Str} {sp : Sp} {dvs : List V} {ds : List Value} {E : XK} {x : Str} {p pos : Pos} {e : Expr} {es : List Expr} {t : TA}
end
end L2
namespace Dl
open PySem L2
structure CallG (P : Program) (w : World) (K : PySem.W.Frag) (mg : Str → Option Value) (base : Heap) (C : Addr) (k : Nat) (x : Str) (n : Nat) (S : DSp) : Prop where
  ex : ∃ (f : Addr) (fd : FuncData) (ps : List Str), mg x = some (.ref f) ∧ PySem.W.keepIn K (.ref f) = true ∧ FnG P w K mg base CX0 k f fd ps (spD ⟨K, C⟩ n S) ∧ Binds K fd ps []
section
variable {X : Cx} {C : Addr} {k j n : Nat} {S : DSp} {x : Str} {p pos : Pos} {e : Expr} {es : List Expr} {va : DA}
end
section
variable {P : Program} {w : World} {K : PySem.W.Frag} {mg : Str → Option Value} {base : Heap} {C : Addr} {k n : Nat} {S : DSp} {x qual : Str} {params : Arguments} {body : List Stmt} {scope : Scope} {dvs : List V} {kws : List (Str × V)} {f : Addr} {fd : FuncData} {ps : List Str}
end
mutual
def noLst : D → Bool
  | .tup ds => noLstL ds
  | .lst _ => false
  | .dct _ ds => noLstL ds
  | _ => true
def noLstL : List D → Bool
  | [] => true
  | d :: ds => noLst d && noLstL ds
end
def kP : Key → PyData
  | .inl i => .int i
  | .inr x => .str x
mutual
def toR : D → Option PyData
  | .non => some .none
  | .bl b => some (.bool b)
  | .int i => some (.int i)
  | .str x => some (.str x)
  | .tup ds => match toRL ds with
    | some ps => some (.tuple ps)
    | none => none
  | .lst ds => match toRL ds with
    | some ps => some (.list ps)
    | none => none
  | .dct ks ds => match toRL ds with
    | some ps => some (.dict ((ks.map kP).zip ps))
    | none => none
  | _ => none
def toRL : List D → Option (List PyData)
  | [] => some []
  | d :: ds => match toR d, toRL ds with
    | some p, some ps => some (p :: ps)
    | _, _ => none
end
section
variable {X : Cx} {C : Addr} {pins : List (Addr × Obj)} {σ : St} {H : Hp} {s : Shared} {M : Mem}
end
structure ShowOk (d : D) (p : PyData) : Prop where
  is : toR d = some p
  sh : p.showable = true
  len : p.shown.length ≤ sizeLine
  dep : p.depth ≤ 60
  dic : p.hasDict = false ∨ noLst d = true
section
variable {X : Cx} {C : Addr}
end
end Dl
namespace Dl
open PySem L2
def oEqN (f : Bool → Bool) : DO := fun d e M R => match d, e with
  | .lst ds, .lst [] => R (.bl (f ds.isEmpty)) M
  | _, _ => False
theorem f_eqNl {f : Bool → Bool} {ds : List D} {M : Mem} {R : DR} : oEqN f (.lst ds) (.lst []) M R = R (.bl (f ds.isEmpty)) M := rfl
def rEqN (f : Bool → Bool) : R2 := fun x y H Q => ∃ a b xs, x = .ref a ∧ y = .ref b ∧ H a = some (.lst xs) ∧ H b = some (.lst []) ∧ Q (.bl (f xs.isEmpty)) H
section
variable {X : Cx} {C : Addr}
theorem op_eqNl (hu : X.A.units < cLine) : OpR X (compareOp .Eq) (rEqN id) := by
  intro pins s σ H x y v u Q I rx ry h
  obtain ⟨a, b, xs, rfl, rfl, ea, eb, q⟩ := h
  obtain rfl : v = Value.ref a := rx
  obtain rfl : u = Value.ref b := ry
  obtain ⟨_, its, n, ra, ya⟩ := (show ObjOk X.prog X.w H s.heap a (.lst xs) from I.hok a _ ea)
  obtain ⟨_, jts, m, rb, yb⟩ := (show ObjOk X.prog X.w H s.heap b (.lst []) from I.hok b _ eb)
  have h1 := ra.length
  have h2 := rb.length
  cases xs with
  | nil =>
    cases ra
    cases rb
    exact SeqAt.RcAt.lists (e := fun _ => true) ⟨_, ya, rfl, _, rfl⟩ ⟨_, yb, rfl, _, rfl⟩ rfl hu (fun j z _ => absurd z (by simp)) X.prog X.w X.xe _ ⟨.bl _, H, I, rfl, q⟩
  | cons z zs =>
    refine SeqAt.RcAt.lists_lengths ⟨_, ya, rfl, _, rfl⟩ ⟨_, yb, rfl, _, rfl⟩ ?_ hu X.prog X.w X.xe _ ⟨.bl _, H, I, rfl, q⟩
    simp at h1 h2 ⊢; omega
theorem sndO_eqNl {G : Gx} {f : Bool → Bool} : SndO G (rEqN f) (oEqN f) := fun d e M R H x y Q o i1 i2 h k => by
  unfold oEqN at h
  split at h
  · rename_i ds
    unfold Is at i1 i2
    obtain ⟨a, us, ex, _, ha, hl⟩ := i1
    obtain ⟨b, vs, ey, _, hb, hl2⟩ := i2
    have l1 := hl.len
    have l2 := hl2.len
    have ev : vs = [] := by cases vs with
      | nil => rfl
      | cons _ _ => simp at l2
    subst ev
    refine ⟨a, b, us, ex, ey, ha, hb, k _ M _ H o is_bl Ext.refl ?_⟩
    have e : us.isEmpty = ds.isEmpty := by
      cases us <;> cases ds <;> simp at l1 ⊢
    rw [e]
    exact h
  · exact h.elim
theorem c_eqNl {k : Nat} (hr : Room k X.A) : CmpQ X C .Eq (oEqN id) := ⟨_, op_eqNl (by have := hr.units; omega), sndO_eqNl⟩
end
end Dl
namespace Dl
open PySem L2
section
variable {X : Cx} {C : Addr} {s1 s2 : Stmt} {rest : List Stmt} {a b u : DS}
end
end Dl
namespace Dl
open PySem L2
def bmV : List Value := [.type "ValueError", .type "Exception", .type "BaseException", .type "object"]
structure ExK0 (K : PySem.W.Frag) (mg : Str → Option Value) (c : Str) : Prop where
  ex : mg c = some (.ref (He.ga K c)) ∧ PySem.W.excIn K (He.ga K c) bmV "ValueError.__new__" = true ∧ PySem.W.keepIn K (.ref (He.ga K c)) = true ∧ PySem.W.subIn K (.ref (He.ga K c)) (.type "BaseException") = some true ∧
    PySem.W.typeIn K (.ref (He.ga K c)) = some (.type "type") ∧ PySem.W.exmOne K (.ref (He.ga K c)) (.ref (He.ga K "FourTestsError")) = some true ∧ noFld c = true
  me : PySem.W.exmOne K (.ref (He.ga K c)) (.ref (He.ga K c)) = some true
def exk0B (K : PySem.W.Frag) (c : Str) : Bool := PySem.W.excIn K (He.ga K c) bmV "ValueError.__new__" && (PySem.W.keepIn K (.ref (He.ga K c)) && (decide (PySem.W.subIn K (.ref (He.ga K c)) (.type "BaseException") = some true) && (decide (PySem.W.typeIn K (.ref (He.ga K c)) = some (.type "type")) &&
  (decide (PySem.W.exmOne K (.ref (He.ga K c)) (.ref (He.ga K "FourTestsError")) = some true) && (noFld c && decide (PySem.W.exmOne K (.ref (He.ga K c)) (.ref (He.ga K c)) = some true))))))
theorem exk0B_ok {K : PySem.W.Frag} {mg : Str → Option Value} {c : Str} (g : mg c = some (.ref (He.ga K c))) (h : exk0B K c = true) : ExK0 K mg c := by
  obtain ⟨h1, h⟩ := He.ba h
  obtain ⟨h2, h⟩ := He.ba h
  obtain ⟨h3, h⟩ := He.ba h
  obtain ⟨h4, h⟩ := He.ba h
  obtain ⟨h5, h⟩ := He.ba h
  obtain ⟨h6, h7⟩ := He.ba h
  exact ⟨⟨g, h1, h2, of_decide_eq_true h3, of_decide_eq_true h4, of_decide_eq_true h5, h6⟩, of_decide_eq_true h7⟩
section
variable {X : Cx} {C : Addr} {j k n : Nat} {S : DSp} {Sx : DSx} {o e fe : Expr} {es : List Expr} {m x c : Str} {pos pos' apos p : Pos} {f g : Addr} {fd : FuncData} {ps : List Str} {sp : Sp} {ta : TE} {t : TA}
theorem pmk_own0 {D : Addr} {bmB : List Value} {B newId initId : String} (F : ExcBaseFacts B newId initId bmB) (q : PySem.W.excIn X.K D bmB newId = true) (gC : X.mg x = some (.ref D)) (kC : PySem.W.keepIn X.K (.ref D) = true) (r : Raises X (.ref D)) (hg : Gl X x)
    (hdb : (x == ("__debug__" : Str)) = false := by decide) : PMk X (.Call (.Name x p) [] [] pos) (fun _ H Q => Q (.ref D) none H) := by
  intro pins s σ H Q I h
  refine wpAny_Call_Name_kw (ld_glob I hg gC ?_ hdb)
  refine PySem.W.callWith_K0 I.kIn kC ?_
  show wpAny _ _ (call (.ref D) []) _ _ _
  obtain ⟨bm, N, nm, qn, bs, hdct, sn, sub, ab, col, dd, k0, k1, k2, k3, k5, mN, hC, hN, hni, T⟩ := exc_obj I.kIn q
  refine wpAny_call_exc_subT F T hC hN hni (fun h' e hm => ?_) (Nat.zero_le _)
  exact mk_of I hm r h (I.hok.gone hm.new)
def vRaise0 (c : Str) : DS := fun Ed γ M => Ed.xx γ ⟨c, .non⟩ M
theorem e_vRaise0 (c : Str) (Ed : DEnds) (γ : Gm) (M : Mem) : vRaise0 c Ed γ M = Ed.xx γ ⟨c, .non⟩ M := propext Iff.rfl
theorem qs_raise0 (h : ExK0 X.K X.mg c) (hg : Gl X c := by rfl) (hc : X.calm = true := by rfl) (hdb : (c == ("__debug__" : Str)) = false := by decide) : QS X C (.Raise (some (.Call (.Name c p) [] [] pos)) none pos') (vRaise0 c) := by
  obtain ⟨h1, h2, h3, h4, h5, h6, h7⟩ := h.ex
  exact ⟨_, ps_raise hc takes_wX (pmk_own0 PySem.F.excBase_ValueError h2 h1 h3 (raises_own h4 h5) hg hdb), fun Ed γ M σ H E r l hv => l.xx γ M σ _ ⟨c, .non⟩ _ none r ⟨rfl, h6, .inl ⟨h7, rfl⟩⟩ Ext.refl hv⟩
structure MOkX (P : Program) (w : World) (K : PySem.W.Frag) (mg : Str → Option Value) (base : Heap) (C : Addr) (k : Nat) (m : Str) (n : Nat) (S : DSp) (Sx : DSx) : Prop where
  ex : ∃ (f : Addr) (fd : FuncData) (ps : List Str), Cls K C ∧ Meth K C m f ∧ (m == ("parts" : Str)) = false ∧ FnOk P w K mg base (CXp P w) k f fd ps (spU ⟨K, C⟩ n S Sx) ∧ Binds K fd ps []
structure COkX (P : Program) (w : World) (K : PySem.W.Frag) (mg : Str → Option Value) (base : Heap) (C : Addr) (k n : Nat) (S : DSp) (Sx : DSx) : Prop where
  ex : ∃ (g : Addr) (fd : FuncData) (ps : List Str), StX.CallO K C g ∧ FnOk P w K mg base (CXp P w) k g fd ps (spU ⟨K, C⟩ n S Sx) ∧ Binds K fd ps []
def tMethW (X : Cx) (C : Addr) (m : Str) (sp : Sp) (ta : TE) (t : TA) : TE := fun σ H Q => ta σ H fun x H1 => ∃ a dx fs, x = .ref a ∧ H1 a = some (.ins C dx fs) ∧ fs.lookup m = none ∧
  t σ H1 fun vs H2 => ∃ E : XK, sp (x :: vs) H2 Q E ∧ ∀ cls d H', E cls d H' → wX X cls d σ H'
theorem code_selfW {pins : List (Addr × Obj)} {σ : St} {H : Hp} {s : Shared} {Q : VK} {E : XK} {a : Addr} {us : List Value} {vs : List V} (F : FnOk X.prog X.w X.K X.mg X.base (CXp X.prog X.w) k f fd ps sp) (hr : Room k X.A) (hb : Binds X.K fd ps []) (r : Vals vs us)
    (I : Inv X pins σ H s) (h : sp (V.ref a :: vs) H Q E) (hW : ∀ cls d H', E cls d H' → wX X cls d σ H') : codeAny (model X.prog X.w) X.A (.call (.ref f) ⟨Value.ref a :: us, []⟩) (fun r s' => match r with
      | .ok (.ret v) => EP X pins σ Q v s'
      | .ok _ => False
      | .error e => X.xe e s') s := by
  have r2 : Vals (V.ref a :: vs) (Value.ref a :: us) := .cons rfl r
  have hl : (Value.ref a :: us).length = ps.length := by rw [← r2.length]; exact F.len _ _ _ _ h
  have b := hb s (Value.ref a :: us) I.kIn (by rw [List.append_nil]; exact hl)
  rw [List.append_nil] at b
  refine codeAny_mono (F.run X.A X.stack s H ⟨Value.ref a :: us, []⟩ (Value.ref a :: us) _ Q E hr I.env0 b r2 h) fun z s' hz => ?_
  match z, hz with
  | .error u, hz => exact cx_xe I hW u s' hz
  | .ok (.ret u), hz => exact I.after hz
  | .ok .next, hz => exact hz.elim
  | .ok .brk, hz => exact hz.elim
  | .ok .cont, hz => exact hz.elim
theorem run_selfW {pins : List (Addr × Obj)} {σ : St} {H : Hp} {s : Shared} {Q : VK} {E : XK} {a : Addr} {us : List Value} {vs : List V} (F : FnOk X.prog X.w X.K X.mg X.base (CXp X.prog X.w) k f fd ps sp) (hr : Room k X.A) (hb : Binds X.K fd ps []) (r : Vals vs us)
    (I : Inv X pins σ H s) (h : sp (V.ref a :: vs) H Q E) (hW : ∀ cls d H', E cls d H' → wX X cls d σ H') : wpAny (model X.prog X.w) X.A (call (.ref f) (.ref a :: us)) (EP X pins σ Q) X.xe s := wpAny_call (code_selfW F hr hb r I h hW)
theorem pe_methW0 {pl : Sem Bool} (he : PE X o ta) (c : Cls X.K C) (hm : Meth X.K C m f) (F : FnOk X.prog X.w X.K X.mg X.base (CXp X.prog X.w) k f fd ps sp) (hr : Room k X.A) (hb : Binds X.K fd ps [])
    (ht : eval (.Call (.Attribute o m apos) [] [] pos) X.env = (do
      let ov ← eval o X.env
      standAt apos.atName
      let (f, first) ← holding [ov] (getMethod ov m pl)
      callWith pos f first (backTo pos (starEach [] X.env)) (backToKw pos (keywordEach [] X.env))) := by rfl) :
    PE X (.Call (.Attribute o m apos) [] [] pos) (tMethW X C m sp ta tNil) := by
  refine ⟨fun pins s σ H Q I h => ?_⟩
  refine PySem.W.methodCall_KW (pl := pl) (thn (he.run pins s σ H _ I h) fun u s1 ⟨x, H1, I1, rx, a, dx, fs, ex, ea, l, q⟩ => ?_) ht
  subst ex
  obtain rfl : u = Value.ref a := rx
  refine getmeth_ok I1 ea c hm l ?_
  obtain ⟨E, q2, hW⟩ := q
  exact PySem.W.callWith_K0 (first := [.ref a]) I1.kIn hm.kp (run_selfW F hr hb .nil I1 q2 hW)
end
end Dl
namespace Dl
open PySem L2
def oStrI : DC := fun ds M R => match ds with
  | [.int i] => i.natAbs.log2 < 1920 ∧ R (.str (toString i)) M
  | _ => False
theorem f_strI {i : Int} {M : Mem} {R : DR} : oStrI [.int i] M R = (i.natAbs.log2 < 1920 ∧ R (.str (toString i)) M) := id rfl
def strsOf : List D → Option (List Str)
  | [] => some []
  | .str x :: ds => (match strsOf ds with
    | some xs => some (x :: xs)
    | none => none)
  | _ :: _ => none
section
variable {X : Cx} {C : Addr} {o e : Expr} {va ve : DE} {pos apos : Pos}
def vFmt (a : DE) : DE := fun γ M R => a γ M fun d M1 => match d with
  | .int i => i.natAbs.log2 < 1920 ∧ R (.str (toString i)) M1
  | .str y => y.length ≤ sizeLine ∧ R (.str y) M1
  | _ => False
theorem e_vFmt (a : DE) (γ : Gm) (M : Mem) (R : DR) : vFmt a γ M R = (a γ M fun d M1 => match d with
  | .int i => i.natAbs.log2 < 1920 ∧ R (.str (toString i)) M1
  | .str y => y.length ≤ sizeLine ∧ R (.str y) M1
  | _ => False) := propext Iff.rfl
theorem q_fmt (he : QE X C e ve) : QE X C (.FormattedValue e (-1) none pos) (vFmt ve) := by
  obtain ⟨te, pe, se⟩ := he.ex
  refine ⟨_, pe_fmt pe, fun γ M R σ H Q r h k => se γ M _ σ H _ r h fun d M1 x H1 o1 i1 e1 h1 => ?_⟩
  match d, h1 with
  | .int i, h1 =>
    unfold Is at i1
    exact .inr ⟨i, i1, h1.1, k _ M1 _ H1 o1 is_str e1 h1.2⟩
  | .str y, h1 =>
    unfold Is at i1
    exact .inl ⟨y, i1, h1.1, k _ M1 _ H1 o1 is_str e1 h1.2⟩
def vJs : List DE → Str → Gm → Mem → (Str → Mem → Prop) → Prop
  | [], acc, _, M, R => R acc M
  | v :: vs, acc, γ, M, R => v γ M fun d M1 => match d with
    | .str y => (acc ++ y).length ≤ sizeLine ∧ vJs vs (acc ++ y) γ M1 R
    | _ => False
theorem e_vJs0 (acc : Str) (γ : Gm) (M : Mem) (R : Str → Mem → Prop) : vJs [] acc γ M R = R acc M := id rfl
theorem e_vJs1 (v : DE) (vs : List DE) (acc : Str) (γ : Gm) (M : Mem) (R : Str → Mem → Prop) : vJs (v :: vs) acc γ M R = (v γ M fun d M1 => match d with
    | .str y => (acc ++ y).length ≤ sizeLine ∧ vJs vs (acc ++ y) γ M1 R
    | _ => False) := id rfl
structure QJ (X : Cx) (C : Addr) (es : List Expr) (vs : List DE) : Prop where
  ex : ∃ ts, PJ X es ts ∧ ∀ (acc : Str) (γ : Gm) (M : Mem) (R : Str → Mem → Prop) (σ : St) (H : Hp) (Q : Str → Hp → Prop), Rel ⟨X.K, C⟩ M γ σ H → vJs vs acc γ M R →
    (∀ y M' H', Own ⟨X.K, C⟩ M' H' → Ext M M' H H' → R y M' → Q y H') → tJs ts acc σ H Q
theorem qj_nil : QJ X C [] [] := ⟨[], .nil, fun acc γ M R σ H Q r h k => k acc M H r.ow Ext.refl h⟩
theorem qj_cons {es : List Expr} {vs : List DE} (he : QE X C e ve) (hr : QJ X C es vs) : QJ X C (e :: es) (ve :: vs) := by
  obtain ⟨te, pe, se⟩ := he.ex
  obtain ⟨ts, pj, sj⟩ := hr.ex
  refine ⟨_, .cons pe pj, fun acc γ M R σ H Q r h k => se γ M _ σ H _ r h fun d M1 x H1 o1 i1 e1 h1 => ?_⟩
  match d, h1 with
  | .str y, h1 =>
    unfold Is at i1
    exact ⟨y, i1, h1.1, sj _ γ M1 R σ H1 Q (r.mk' e1 o1) h1.2 fun z M' H' o' e' h' => k z M' H' o' (e1.trans e') h'⟩
def vFs (vs : List DE) : DE := fun γ M R => vJs vs Str.empty γ M fun y M1 => R (.str y) M1
theorem e_vFs (vs : List DE) (γ : Gm) (M : Mem) (R : DR) : vFs vs γ M R = vJs vs Str.empty γ M (fun y M1 => R (.str y) M1) := id rfl
theorem q_fs {v1 v2 : Expr} {rest : List Expr} {vs : List DE} (h : QJ X C (v1 :: v2 :: rest) vs) : QE X C (.JoinedStr (v1 :: v2 :: rest) pos) (vFs vs) := by
  obtain ⟨ts, pj, sj⟩ := h.ex
  exact ⟨_, pe_joined pj, fun γ M R σ H Q r hv k => sj _ γ M _ σ H _ r hv fun y M' H' o' e' h' => k _ M' _ H' o' is_str e' h'⟩
def strB : D → Bool
  | .str _ => true
  | _ => false
def oReprL (S : DSp) : DC := fun ds M R => match ds with
  | [d] => isLn d = true ∧ S [d] M (fun e M' => strB e = true ∧ R e M') noX
  | _ => False
theorem e_oReprL (S : DSp) (d : D) (M : Mem) (R : DR) : oReprL S [d] M R = (isLn d = true ∧ S [d] M (fun e M' => strB e = true ∧ R e M') noX) := id rfl
theorem b_reprL {j k : Nat} {S : DSp} (h : UOk X.prog X.w X.K X.mg X.base C k "__repr__" 1 S) (hr : Room j X.A) (hkj : k + 1 ≤ j) : BQ X C (.builtin "repr") (oReprL S) := by
  obtain ⟨f, fd, ps, hm, hf, F, hb⟩ := h.ex
  refine ⟨fun xs H Q => ∃ a dx fs, xs = [V.ref a] ∧ H a = some (.ins C dx fs) ∧ spD ⟨X.K, C⟩ 1 S [V.ref a] H (fun v H' => (∃ y, v = .str y) ∧ Q v H') E0, fun pins s σ H xs us Q I r h => ?_, fun ds M R H xs Q o i1 h k => ?_⟩
  · obtain ⟨a, dx, fs, rfl, ea, hsp⟩ := h
    obtain ⟨u, rfl, t⟩ := vals1 r
    obtain rfl : u = Value.ref a := t
    obtain ⟨m, Fr⟩ := inv_fr I
    obtain ⟨ox, od, J⟩ := inst_at I ea
    have rm : Room k X.A.in1 := (hr.mono hkj).in1
    refine PySem.W.repr_K (hr.mono (by omega : 1 ≤ j)).in1.units0 Fr I.ok.mod.kin J hm hf ?_
    have b := hb s [.ref a] I.kIn (by have := F.len _ _ _ _ hsp; exact this)
    rw [List.append_nil] at b
    refine wpAny_call (codeAny_mono (F.run X.A.in1 X.stack s H ⟨[.ref a], []⟩ [.ref a] [V.ref a] _ E0 rm I.env0.in1 b (.cons rfl .nil) hsp) fun z s' hz => ?_)
    match z, hz with
    | .error u, hz => exact hz.elim
    | .ok (.ret u), hz =>
      obtain ⟨v, H', I', rv, ⟨y, ey⟩, q⟩ := I.after hz
      subst ey
      obtain ⟨tk, rfl⟩ := rv
      exact ⟨.str y, H', I', ⟨tk, rfl⟩, q⟩
    | .ok .next, hz => exact hz.elim
    | .ok .brk, hz => exact hz.elim
    | .ok .cont, hz => exact hz.elim
  · match ds, h with
    | [d], h =>
      obtain ⟨v, rfl, i⟩ := isL1 i1
      obtain ⟨a, dx, q, ex, hx⟩ := ln_at i h.1
      refine ⟨a, dx, _, by rw [ex], hx, [d], M, _, rfl, by rw [← ex]; exact IsL.cons i IsL.nil, o, h.2, fun d' M' y H' o' i' e' h' => ⟨?_, k d' M' y H' o' i' e' h'.2⟩⟩
      have hs := h'.1
      cases d' <;> first | (unfold Is at i'; exact ⟨_, i'⟩) | cases hs
end
end Dl
namespace Dl
open PySem L2
def spLnX (G : Gx) (Sx : DSx) : Sp := fun vs H _ E => ∃ (x dx : Addr) (ds : List D) (us : List V) (M : Mem) (Xd : DX), vs = .ref x :: us ∧ ds.length = 3 ∧ H x = some (.ins G.C dx []) ∧ IsL G M H ds us ∧ Own G M H ∧ Sx ds M Xd ∧
  ∀ xd M' cls d H', Own G M' H' → XIs G M' H' xd cls d → Ext M M' H H' → Xd xd M' → E cls d H'
def spLnU (G : Gx) (Sx : DSx) : Sp := fun vs H Q E => spLn G.C vs H Q E ∨ spLnX G Sx vs H Q E
structure LMkX (P : Program) (w : World) (K : PySem.W.Frag) (mg : Str → Option Value) (base : Heap) (C : Addr) (k : Nat) (Sx : DSx) : Prop where
  ex : ∃ (f : Addr) (fd : FuncData) (ps : List Str), mg "Line" = some (.ref C) ∧ Mk K C f ∧ FnOk P w K mg base (CXp P w) k f fd ps (spLnU ⟨K, C⟩ Sx) ∧ Binds K fd ps []
section
variable {X : Cx} {C f : Addr} {j k : Nat} {Sx : DSx} {e : Expr} {es : List Expr} {x : Str} {p pos : Pos} {fd : FuncData} {ps : List Str} {sp : Sp} {t : TA}
end
end Dl
namespace Dl
open PySem L2
section
variable {X : Cx} {C : Addr} {j k n : Nat} {S : DSp} {Sx : DSx} {o e fe : Expr} {es : List Expr} {vf vo : DE} {va : DA} {m : Str} {pos apos p : Pos}
def isCls : D → Bool
  | .cls => true
  | _ => false
theorem f_cls : isCls .cls = true := id rfl
structure CMOk (P : Program) (w : World) (K : PySem.W.Frag) (mg : Str → Option Value) (base : Heap) (C : Addr) (k : Nat) (m : Str) (n : Nat) (S : DSp) : Prop where
  ex : ∃ (mc : Value) (p g : Addr) (fd : FuncData) (ps : List Str), ClX.CRead K C mc ∧ ClX.CMet K C mc m p g ∧ FnOk P w K mg base CX0 k g fd ps (spD ⟨K, C⟩ n S) ∧ Binds K fd ps []
end
end Dl
namespace Dl
open PySem L2
end Dl
namespace Dl
open PySem L2
section
variable {X : Cx} {C f g : Addr} {j k n : Nat} {S : DSp} {o fe : Expr} {vo vf : DE} {vk : DAX} {m : Str} {pos apos p : Pos} {kws : List Keyword} {ks : List Str} {fd : FuncData} {ps : List Str} {sp : Sp} {to : TE} {tk : TA} {pick : List D → List D → List D} {gg : List Value → List Value → List Value} {gV : List V → List V → List V} {vk : DA}
def PickOk (K : PySem.W.Frag) (C : Addr) (pick : List D → List D → List D) (gV : List V → List V → List V) : Prop :=
  ∀ (M : Mem) (H : Hp) (ds zs : List D) (vs us : List V), IsL ⟨K, C⟩ M H ds vs → IsL ⟨K, C⟩ M H zs us → IsL ⟨K, C⟩ M H (pick ds zs) (gV vs us)
structure MKOk (P : Program) (w : World) (K : PySem.W.Frag) (mg : Str → Option Value) (base : Heap) (C : Addr) (k : Nat) (m : Str) (n : Nat) (S : DSp) (ks : List Str) (pick : List D → List D → List D) : Prop where
  ex : ∃ (f : Addr) (fd : FuncData) (ps : List Str) (g : List Value → List Value → List Value) (gV : List V → List V → List V), Cls K C ∧ Meth K C m f ∧ (m == ("parts" : Str)) = false ∧ FnOk P w K mg base CX0 k f fd ps (spD ⟨K, C⟩ n S) ∧ KBn K fd ps 1 ks g gV ∧ PickOk K C pick gV
structure COkK (P : Program) (w : World) (K : PySem.W.Frag) (mg : Str → Option Value) (base : Heap) (C : Addr) (k n : Nat) (S : DSp) (ks : List Str) (pick : List D → List D → List D) : Prop where
  ex : ∃ (f : Addr) (fd : FuncData) (ps : List Str) (g : List Value → List Value → List Value) (gV : List V → List V → List V), StX.CallO K C f ∧ FnOk P w K mg base CX0 k f fd ps (spD ⟨K, C⟩ n S) ∧ KBn K fd ps 1 ks g gV ∧ PickOk K C pick gV
structure CMKOk (P : Program) (w : World) (K : PySem.W.Frag) (mg : Str → Option Value) (base : Heap) (C : Addr) (k : Nat) (m : Str) (n : Nat) (S : DSp) (ks : List Str) (pick : List D → List D → List D) : Prop where
  ex : ∃ (mc : Value) (p f : Addr) (fd : FuncData) (ps : List Str) (g : List Value → List Value → List Value) (gV : List V → List V → List V), ClX.CRead K C mc ∧ ClX.CMet K C mc m p f ∧ FnOk P w K mg base CX0 k f fd ps (spD ⟨K, C⟩ n S) ∧ KBn K fd ps 1 ks g gV ∧ PickOk K C pick gV
structure LMkK (P : Program) (w : World) (K : PySem.W.Frag) (mg : Str → Option Value) (base : Heap) (C : Addr) (k : Nat) (ks : List Str) (iy : List Nat) : Prop where
  ex : ∃ (f : Addr) (fd : FuncData) (ps : List Str) (g : List Value → List Value → List Value) (gV : List V → List V → List V), mg "Line" = some (.ref C) ∧ Mk K C f ∧ FnOk P w K mg base CX0 k f fd ps (spLn C) ∧ KBn K fd ps 1 ks g gV ∧ ∀ x a b c : V, gV [x] [a, b, c] = x :: pickL iy [a, b, c] []
end
section
variable {P : Program} {w : World} {K : PySem.W.Frag} {mg : Str → Option Value} {base : Heap} {x qual : Str} {params : Arguments} {body : List Stmt} {scope : Scope} {kws : List (Str × V)} {f : Addr} {fd : FuncData} {ps : List Str}
end
section
variable {α : Type} {a b c d : α}
theorem pkm1 : pickL [0, 1] [a] [b] = [a, b] := id rfl
theorem pkm2 : pickL [0, 2, 3, 1] [a] [b, c, d] = [a, c, d, b] := id rfl
theorem pkm3 : pickL [0, 3, 1, 2] [a] [b, c, d] = [a, d, b, c] := id rfl
theorem pkm4 : pickL [0, 3, 2, 1] [a] [b, c, d] = [a, d, c, b] := id rfl
theorem pkm5 : pickL [0, 1, 3, 2] [a] [b, c, d] = [a, b, d, c] := id rfl
theorem pkm6 : pickL [1, 2, 0] [a, b, c] [] = [b, c, a] := id rfl
end
end Dl
namespace Dl
open PySem L2
def keyD : D → Option Key
  | .int i => some (.inl i)
  | .str x => some (.inr x)
  | _ => none
def datK : Key → D
  | .inl i => .int i
  | .inr x => .str x
theorem keyD_ok {G : Gx} {M : Mem} {H : Hp} {d : D} {v : V} {k : Key} (h : Is G M H d v) (e : keyD d = some k) : v = kV k := by
  cases d with
  | int i => cases e; unfold Is at h; rw [h]; rfl
  | str x => cases e; unfold Is at h; rw [h]; rfl
  | _ => cases e
def dVal {α : Type} (ks : List Key) (ds : List α) (k : Key) : Option α := ((ks.zip ds).find? fun p => decide (p.1 = k)).map (·.2)
theorem dVal_cons {α : Type} {x : Key} {ks : List Key} {d : α} {ds : List α} {k : Key} : dVal (x :: ks) (d :: ds) k = if x = k then some d else dVal ks ds k := by
  unfold dVal
  rw [List.zip_cons_cons, List.find?_cons]
  by_cases h : x = k
  · simp [h]
  · simp [h]
theorem dVal_is {G : Gx} {M : Mem} {H : Hp} : ∀ {ks : List Key} {ds : List D} {xs : List V} {k : Key}, IsL G M H ds xs → (∀ d, dVal ks ds k = some d → ∃ v, valV (ks.zip xs) k = some v ∧ Is G M H d v) ∧ (dVal ks ds k = none → valV (ks.zip xs) k = none)
  | [], ds, xs, k, _ => ⟨fun d e => by simp [dVal] at e, fun _ => by simp [valV]⟩
  | _ :: _, [], [], k, _ => ⟨fun d e => by simp [dVal] at e, fun _ => by simp [valV]⟩
  | _ :: _, [], _ :: _, _, h => by unfold IsL at h; exact h.elim
  | _ :: _, _ :: _, [], _, h => by unfold IsL at h; exact h.elim
  | x :: ks, d :: ds, v :: xs, k, h => by
    unfold IsL at h
    obtain ⟨i1, i2⟩ := dVal_is (ks := ks) (k := k) h.2
    have ev : valV ((x :: ks).zip (v :: xs)) k = if x = k then some v else valV (ks.zip xs) k := dVal_cons
    rw [dVal_cons, ev]
    by_cases q : x = k
    · rw [if_pos q, if_pos q]
      exact ⟨fun d' e => by cases e; exact ⟨v, rfl, h.1⟩, fun e => by cases e⟩
    · rw [if_neg q, if_neg q]
      exact ⟨i1, i2⟩
def repL {α : Type} : List Key → List α → Key → α → List α
  | x :: ks, y :: ds, k, d => (if x = k then d else y) :: repL ks ds k d
  | _, _, _, _ => []
def hasK (ks : List Key) (k : Key) : Bool := ks.any fun x => decide (x = k)
theorem hasK_iff {ks : List Key} {k : Key} : hasK ks k = true ↔ k ∈ ks := by
  unfold hasK
  rw [List.any_eq_true]
  exact ⟨fun ⟨x, h, e⟩ => (of_decide_eq_true e) ▸ h, fun h => ⟨k, h, decide_eq_true rfl⟩⟩
def putKs (ks : List Key) (k : Key) : List Key := if hasK ks k = true then ks else ks ++ [k]
def putDs {α : Type} (ks : List Key) (ds : List α) (k : Key) (d : α) : List α := if hasK ks k = true then repL ks ds k d else ds ++ [d]
theorem repL_len {α : Type} : ∀ {ks : List Key} {ds : List α} {k : Key} {d : α}, ks.length = ds.length → (repL ks ds k d).length = ds.length
  | [], [], _, _, _ => rfl
  | [], _ :: _, _, _, h => by simp at h
  | _ :: _, [], _, _, h => by simp at h
  | _ :: ks, _ :: ds, k, d, h => by
    show (repL ks ds k d).length + 1 = ds.length + 1
    rw [repL_len (by simpa using h)]
theorem putDs_len {α : Type} {ks : List Key} {ds : List α} {k : Key} {d : α} (h : ks.length = ds.length) : (putKs ks k).length = (putDs ks ds k d).length := by
  unfold putKs putDs
  split
  · rw [repL_len h, h]
  · simp [h]
theorem zip_repL : ∀ {ks : List Key} {xs : List V} {k : Key} {v : V}, ks.length = xs.length → (ks.zip xs).map (fun kv => if kv.1 = k then (kv.1, v) else kv) = ks.zip (repL ks xs k v)
  | [], _, _, _, _ => rfl
  | _ :: _, [], _, _, h => by simp at h
  | x :: ks, y :: xs, k, v, h => by
    show (if x = k then (x, v) else (x, y)) :: (ks.zip xs).map (fun kv => if kv.1 = k then (kv.1, v) else kv) = (x, if x = k then v else y) :: ks.zip (repL ks xs k v)
    rw [zip_repL (by simpa using h)]
    congr 1
    split <;> rfl
theorem putK_zip {ks : List Key} {xs : List V} {k : Key} {v : V} (h : ks.length = xs.length) : L2.putK (ks.zip xs) k v = (putKs ks k).zip (putDs ks xs k v) := by
  have e : ((ks.zip xs).any fun kv => decide (kv.1 = k)) = hasK ks k := by
    have fst : (ks.zip xs).map (·.1) = ks := List.map_fst_zip (by omega)
    have := List.any_map (l := ks.zip xs) (f := (·.1)) (p := fun x => decide (x = k))
    rw [fst] at this
    exact this.symm
  unfold L2.putK putKs putDs
  rw [e]
  by_cases q : hasK ks k = true
  · rw [if_pos q, if_pos q, if_pos q, zip_repL h]
  · rw [if_neg q, if_neg q, if_neg q, List.zip_append h]
    rfl
theorem isL_repL {G : Gx} {M : Mem} {H : Hp} {k : Key} {d : D} {v : V} (hd : Is G M H d v) : ∀ {ks : List Key} {ds : List D} {xs : List V}, ks.length = ds.length → IsL G M H ds xs → IsL G M H (repL ks ds k d) (repL ks xs k v)
  | [], [], [], _, _ => IsL.nil
  | [], _ :: _, _, h, _ => by simp at h
  | _ :: _, [], _, h, _ => by simp at h
  | _, [], _ :: _, _, h => by unfold IsL at h; exact h.elim
  | _, _ :: _, [], _, h => by unfold IsL at h; exact h.elim
  | x :: ks, y :: ds, w :: xs, hl, h => by
    unfold IsL at h
    refine IsL.cons ?_ (isL_repL hd (by simpa using hl) h.2)
    split
    · exact hd
    · exact h.1
theorem isL_putDs {G : Gx} {M : Mem} {H : Hp} {k : Key} {d : D} {v : V} {ks : List Key} {ds : List D} {xs : List V} (hd : Is G M H d v) (hl : ks.length = ds.length) (h : IsL G M H ds xs) : IsL G M H (putDs ks ds k d) (putDs ks xs k v) := by
  unfold putDs
  split
  · exact isL_repL hd hl h
  · exact h.append (IsL.cons hd IsL.nil)
theorem pureL_repL {k : Key} {d : D} (hd : pureD d = true) : ∀ {ks : List Key} {ds : List D}, pureL ds = true → pureL (repL ks ds k d) = true
  | [], _, _ => by unfold repL pureL; rfl
  | _ :: _, [], _ => by unfold repL pureL; rfl
  | x :: ks, y :: ds, h => by
    unfold pureL at h
    rw [Bool.and_eq_true] at h
    show pureL ((if x = k then d else y) :: repL ks ds k d) = true
    unfold pureL
    rw [pureL_repL hd h.2, Bool.and_true]
    split
    · exact hd
    · exact h.1
theorem pureL_putDs {k : Key} {d : D} {ks : List Key} {ds : List D} (hd : pureD d = true) (h : pureL ds = true) : pureL (putDs ks ds k d) = true := by
  unfold putDs
  split
  · exact pureL_repL hd h
  · exact pureL_append h (by simp [pureL, hd])
def dctI (M : Mem) : D → Option (List Key × List D)
  | .dct ks ds => some (ks, ds)
  | .own a => (match M a with
    | some (.dct ks ds) => some (ks, ds)
    | some (.lck _ _ ks ds) => some (ks, ds)
    | _ => none)
  | _ => none
theorem dctI_dct {M : Mem} {ks : List Key} {ds : List D} : dctI M (.dct ks ds) = some (ks, ds) := id rfl
theorem dctI_own {M : Mem} {a : Addr} {ks : List Key} {ds : List D} (h : M a = some (.dct ks ds)) : dctI M (.own a) = some (ks, ds) := by
  show (match M a with
    | some (.dct ks ds) => some (ks, ds)
    | some (.lck _ _ ks ds) => some (ks, ds)
    | _ => none) = _
  rw [h]
theorem dctI_lck {M : Mem} {a : Addr} {o : Obj} {xs : List V} {ks : List Key} {ds : List D} (h : M a = some (.lck o xs ks ds)) : dctI M (.own a) = some (ks, ds) := by
  show (match M a with
    | some (.dct ks ds) => some (ks, ds)
    | some (.lck _ _ ks ds) => some (ks, ds)
    | _ => none) = _
  rw [h]
theorem dctI_same {M : Mem} {a : Addr} {ks : List Key} {ds : List D} : dctI (mset M a (.dct ks ds)) (.own a) = some (ks, ds) := dctI_own mset_same
theorem dct_at {G : Gx} {M : Mem} {H : Hp} {d : D} {v : V} {ks : List Key} {ds : List D} (o : Own G M H) (h : Is G M H d v) (e : dctI M d = some (ks, ds)) : ∃ a xs, v = .ref a ∧ Rd H a (.dK (ks.zip xs)) ∧ ks.length = ds.length ∧ IsL G M H ds xs := by
  cases d with
  | dct k2 d2 =>
    cases e
    unfold Is at h
    obtain ⟨a, xs, e1, m, ha, hl, il⟩ := h
    exact ⟨a, xs, e1, .inl ha, hl, il⟩
  | own a =>
    unfold Is at h
    unfold dctI at e
    simp only at e
    split at e
    · rename_i k2 d2 q
      cases e
      obtain ⟨_, hl, xs, ha, il⟩ := o a _ q
      exact ⟨a, xs, h.1, .inl ha, hl, il⟩
    · rename_i o2 x2 k2 d2 q
      cases e
      obtain ⟨_, hl, ha, il⟩ := o a _ q
      exact ⟨a, x2, h.1, .inr ⟨o2, ha⟩, hl, il⟩
    · cases e
  | _ => cases e
section
variable {X : Cx} {C : Addr} {j : Nat} {o i e : Expr} {vo vi ve : DE} {pos apos p : Pos}
def oLenD : DC := fun ds M R => match ds with
  | [d] => (match dctI M d with
    | some (ks, _) => R (.int ks.length) M
    | none => False)
  | _ => False
theorem f_lenD {d : D} {M : Mem} {R : DR} {ks : List Key} {ds : List D} (h : dctI M d = some (ks, ds)) : oLenD [d] M R = R (.int ks.length) M := by unfold oLenD; simp only [h]
theorem call_lenR : CallR X (.builtin "len") (fun xs H Q => ∃ a kvs, xs = [V.ref a] ∧ Rd H a (.dK kvs) ∧ Q (.int kvs.length) H) := by
  intro pins s σ H xs us Q I r h
  obtain ⟨a, kvs, rfl, ha, q⟩ := h
  obtain ⟨u, rfl, ru⟩ := vals1 r
  cases ru
  exact d_len I ha fun t s' I' => ⟨.int kvs.length, H, I', ⟨t, rfl⟩, q⟩
theorem b_lenD : BQ X C (.builtin "len") oLenD := ⟨_, call_lenR, fun ds M R H xs Q ow i1 h k => by
  match ds, h with
  | [d], h =>
    obtain ⟨v, e, q⟩ := isL1 i1
    unfold oLenD at h
    simp only at h
    split at h
    · rename_i ks es hd
      obtain ⟨a, us, rfl, ha, hl, il⟩ := dct_at ow q hd
      refine ⟨a, ks.zip us, e, ha, ?_⟩
      rw [List.length_zip, ← il.len, ← hl, Nat.min_self]
      exact k _ M _ H ow is_int Ext.refl h
    · exact h.elim⟩
def oInDct (f : Bool → Bool) : DO := fun d e M R => match keyD d, dctI M e with
  | some k, some (ks, ds) => R (.bl (f (dVal ks ds k).isSome)) M
  | _, _ => False
theorem f_inDct {f : Bool → Bool} {d e : D} {M : Mem} {R : DR} {k : Key} {ks : List Key} {ds : List D} (h1 : keyD d = some k) (h2 : dctI M e = some (ks, ds)) : oInDct f d e M R = R (.bl (f (dVal ks ds k).isSome)) M := by
  unfold oInDct; simp only [h1, h2]
def rInDct (f : Bool → Bool) : R2 := fun x y H Q => ∃ a r, y = .ref a ∧ DGet H a x r ∧ Q (.bl (f r.isSome)) H
theorem op_inDct (hu : X.A.units + 1 < cLine) : OpR X (compareOp .In) (rInDct id) := by
  intro pins s σ H x y v u Q I rx ry h
  obtain ⟨a, r, rfl, g, q⟩ := h
  obtain rfl : u = Value.ref a := ry
  exact d_in hu I g rx fun s3 I3 => ⟨.bl r.isSome, H, I3, rfl, q⟩
theorem op_notInDct (hu : X.A.units + 1 < cLine) : OpR X (compareOp .NotIn) (rInDct Bool.not) := by
  intro pins s σ H x y v u Q I rx ry h
  obtain ⟨a, r, rfl, g, q⟩ := h
  obtain rfl : u = Value.ref a := ry
  exact d_notIn hu I g rx fun s3 I3 => ⟨.bl (!r.isSome), H, I3, rfl, q⟩
theorem dVal_get {G : Gx} {M : Mem} {H : Hp} {a : Addr} {ks : List Key} {ds : List D} {xs : List V} {k : Key} (ha : Rd H a (.dK (ks.zip xs))) (il : IsL G M H ds xs) : ∃ r, DGet H a (kV k) r ∧ r.isSome = (dVal ks ds k).isSome ∧ (∀ d, dVal ks ds k = some d → ∃ v, r = some v ∧ Is G M H d v) ∧ (dVal ks ds k = none → r = none) := by
  obtain ⟨h1, h2⟩ := dVal_is (ks := ks) (k := k) il
  refine ⟨_, .inl ⟨_, k, ha, rfl, rfl⟩, ?_, h1, h2⟩
  cases q : dVal ks ds k with
  | none => rw [h2 q]; rfl
  | some d => obtain ⟨v, e, _⟩ := h1 d q; rw [e]; rfl
theorem sndO_inDct {G : Gx} {f : Bool → Bool} : SndO G (rInDct f) (oInDct f) := fun d e M R H x y Q ow i1 i2 h k => by
  unfold oInDct at h
  split at h
  · rename_i key ks ds q1 q2
    have ex := keyD_ok i1 q1
    obtain ⟨a, xs, ey, ha, hl, il⟩ := dct_at ow i2 q2
    obtain ⟨r, g, es, _, _⟩ := dVal_get (k := key) ha il
    refine ⟨a, r, ey, by rw [ex]; exact g, ?_⟩
    rw [es]
    exact k _ M _ H ow is_bl Ext.refl h
  · exact h.elim
theorem c_inDct {k : Nat} (hr : Room k X.A) : CmpQ X C .In (oInDct id) := ⟨_, op_inDct (by have := hr.units; omega), sndO_inDct⟩
theorem c_notInDct {k : Nat} (hr : Room k X.A) : CmpQ X C .NotIn (oInDct Bool.not) := ⟨_, op_notInDct (by have := hr.units; omega), sndO_inDct⟩
def vDGet (o i : DE) : DE := fun γ M R => o γ M fun d M1 => i γ M1 fun k M2 => match dctI M2 d, keyD k with
  | some (ks, ds), some x => (match dVal ks ds x with
    | some e => R e M2
    | none => False)
  | _, _ => False
theorem e_vDGet (o i : DE) (γ : Gm) (M : Mem) (R : DR) : vDGet o i γ M R = (o γ M fun d M1 => i γ M1 fun k M2 => match dctI M2 d, keyD k with
  | some (ks, ds), some x => (match dVal ks ds x with
    | some e => R e M2
    | none => False)
  | _, _ => False) := propext Iff.rfl
theorem q_dget (hr : Room j X.A) (ho : QE X C o vo) (hi : QE X C i vi) (hs : NoSl i := by intro _ _; rfl) : QE X C (.Subscript o i pos) (vDGet vo vi) := by
  obtain ⟨to, po, so⟩ := ho.ex
  obtain ⟨ti, pi, si⟩ := hi.ex
  refine ⟨_, pe_dget (by have := hr.units; omega) po pi hs, fun γ M R σ H Q r h kk => so γ M _ σ H _ r h fun d M1 x H1 o1 i1 e1 h1 => si γ M1 _ σ H1 _ (r.mk' e1 o1) h1 fun k M2 y H2 o2 i2 e2 h2 => ?_⟩
  split at h2
  · rename_i ks ds key q1 q2
    split at h2
    · rename_i z qz
      have ey := keyD_ok i2 q2
      obtain ⟨a, xs, ex, ha, hl, il⟩ := dct_at o2 (Is.ext e2 d x i1) q1
      obtain ⟨r', g, _, h3, _⟩ := dVal_get (k := key) ha il
      obtain ⟨v, rfl, iv⟩ := h3 z qz
      exact ⟨a, v, ex, by rw [ey]; exact g, kk z M2 v H2 o2 iv (e1.trans e2) h2⟩
    · exact h2.elim
  · exact h2.elim
def vDGet1 (o i : DE) : DE := fun γ M R => o γ M fun d M1 => (dctI M1 d).isSome = true ∧ i γ M1 fun k M2 => match dctI M2 d, keyD k with
  | some (ks, ds), some x => R ((dVal ks ds x).getD .non) M2
  | _, _ => False
theorem e_vDGet1 (o i : DE) (γ : Gm) (M : Mem) (R : DR) : vDGet1 o i γ M R = (o γ M fun d M1 => (dctI M1 d).isSome = true ∧ i γ M1 fun k M2 => match dctI M2 d, keyD k with
  | some (ks, ds), some x => R ((dVal ks ds x).getD .non) M2
  | _, _ => False) := propext Iff.rfl
theorem q_dget1 (hr : Room j X.A) (ho : QE X C o vo) (hi : QE X C i vi) (m : M1 X o "get" apos i pos := by exact ⟨rfl, rfl, rfl, rfl⟩) : QE X C (.Call (.Attribute o "get" apos) [i] [] pos) (vDGet1 vo vi) := by
  obtain ⟨to, po, so⟩ := ho.ex
  obtain ⟨ti, pi, si⟩ := hi.ex
  refine ⟨_, pe_dget1 (by have := hr.units; omega) po pi m, fun γ M R σ H Q r h kk => so γ M _ σ H _ r h fun d M1 x H1 o1 i1 e1 h1 => ?_⟩
  obtain ⟨hd, h1⟩ := h1
  obtain ⟨⟨ks1, ds1⟩, hd⟩ := Option.isSome_iff_exists.mp hd
  obtain ⟨a1, xs1, ex1, ha1, _, _⟩ := dct_at o1 i1 hd
  refine ⟨a1, ex1, .inl ⟨_, ha1⟩, si γ M1 _ σ H1 _ (r.mk' e1 o1) h1 fun k M2 y H2 o2 i2 e2 h2 => ?_⟩
  split at h2
  · rename_i ks ds key q1 q2
    have ey := keyD_ok i2 q2
    obtain ⟨a, xs, ex, ha, hl, il⟩ := dct_at o2 (Is.ext e2 d x i1) q1
    have ea : a = a1 := by rw [ex1] at ex; cases ex; rfl
    subst ea
    obtain ⟨r', g, _, h3, h4⟩ := dVal_get (k := key) ha il
    refine ⟨r', by rw [ey]; exact g, ?_⟩
    cases q : dVal ks ds key with
    | none =>
      rw [q] at h2
      rw [h4 q]
      exact kk .non M2 _ H2 o2 is_non (e1.trans e2) h2
    | some z =>
      rw [q] at h2
      obtain ⟨v, rfl, iv⟩ := h3 z q
      exact kk z M2 v H2 o2 iv (e1.trans e2) h2
  · exact h2.elim
def oDict : DC := fun ds M R => match ds with
  | [d] => (match dctI M d with
    | some (ks, es) => R (.dct ks es) M
    | none => False)
  | _ => False
def oDictO : DC := fun ds M R => match ds with
  | [d] => (match dctI M d with
    | some (ks, es) => pureL es = true ∧ ∀ p, M p = none → R (.own p) (mset M p (.dct ks es))
    | none => False)
  | _ => False
theorem f_dictO {d : D} {M : Mem} {R : DR} {ks : List Key} {ds : List D} (h : dctI M d = some (ks, ds)) : oDictO [d] M R = (pureL ds = true ∧ ∀ p, M p = none → R (.own p) (mset M p (.dct ks ds))) := by unfold oDictO; simp only [h]
theorem b_dict : BQ X C (.type "dict") oDict := ⟨_, call_dictD, fun ds M R H xs Q ow i1 h k => by
  match ds, h with
  | [d], h =>
    obtain ⟨v, e, q⟩ := isL1 i1
    unfold oDict at h
    simp only at h
    split at h
    · rename_i ks es hd
      obtain ⟨a, us, rfl, ha, hl, il⟩ := dct_at ow q hd
      refine ⟨a, ks.zip us, e, ha, fun p hp => ?_⟩
      have x2 : Ext M M H (upd H p (.dK (ks.zip us))) := Ext.new hp
      refine k _ M _ _ (ow.new hp) ?_ x2 h
      unfold Is
      exact ⟨p, us, rfl, ow.fresh hp, upd_same, hl, IsL.ext x2 _ _ il⟩
    · exact h.elim⟩
theorem b_dictO : BQ X C (.type "dict") oDictO := ⟨_, call_dictD, fun ds M R H xs Q ow i1 h k => by
  match ds, h with
  | [d], h =>
    obtain ⟨v, e, q⟩ := isL1 i1
    unfold oDictO at h
    simp only at h
    split at h
    · rename_i ks es hd
      obtain ⟨a, us, rfl, ha, hl, il⟩ := dct_at ow q hd
      refine ⟨a, ks.zip us, e, ha, fun p hp => ?_⟩
      have x2 : Ext M (mset M p (.dct ks es)) H (upd H p (.dK (ks.zip us))) := Ext.newOwn hp
      exact k _ (mset M p (.dct ks es)) _ _ (ow.setM x2 ⟨h.1, hl, us, upd_same, IsL.ext x2 _ _ il⟩) is_own x2 (h.2 p (ow.fresh hp))
    · exact h.elim⟩
def vDctO : DE := fun _ M R => ∀ p, M p = none → R (.own p) (mset M p (.dct [] []))
theorem e_vDctO (γ : Gm) (M : Mem) (R : DR) : vDctO γ M R = (∀ p, M p = none → R (.own p) (mset M p (.dct [] []))) := id rfl
theorem q_dctO : QE X C (.Dict [] [] pos) vDctO := ⟨_, pe_dnewK, fun γ M R σ H Q r h k p hp => by
  have x2 : Ext M (mset M p (.dct [] [])) H (upd H p (.dK [])) := Ext.newOwn hp
  exact k _ _ _ _ (r.ow.setM x2 ⟨rfl, rfl, [], upd_same, IsL.nil⟩) is_own x2 (h p (r.ow.fresh hp))⟩
def vDPut (o i e : DE) : DS := fun Ed γ M => e γ M fun v M1 => o γ M1 fun od M2 => i γ M2 fun k M3 => match od, keyD k with
  | .own a, some x => (match M3 a with
    | some (.dct ks ds) => pureD v = true ∧ ds.length < sizeLine ∧ Ed.nx γ (mset M3 a (.dct (putKs ks x) (putDs ks ds x v)))
    | _ => False)
  | _, _ => False
theorem e_vDPut (o i e : DE) (Ed : DEnds) (γ : Gm) (M : Mem) : vDPut o i e Ed γ M = (e γ M fun v M1 => o γ M1 fun od M2 => i γ M2 fun k M3 => match od, keyD k with
  | .own a, some x => (match M3 a with
    | some (.dct ks ds) => pureD v = true ∧ ds.length < sizeLine ∧ Ed.nx γ (mset M3 a (.dct (putKs ks x) (putDs ks ds x v)))
    | _ => False)
  | _, _ => False) := propext Iff.rfl
theorem qs_dput (hr : Room j X.A) (ho : QE X C o vo) (hi : QE X C i vi) (he : QE X C e ve) (hs : swapsWith e (some (.Subscript o i apos)) pos.line X.env = pure false := by rfl) : QS X C (.Assign [.Subscript o i apos] e pos) (vDPut vo vi ve) := by
  obtain ⟨to, po, so⟩ := ho.ex
  obtain ⟨ti, pi, si⟩ := hi.ex
  obtain ⟨te, pe, se⟩ := he.ex
  refine ⟨_, ps_dput (by have := hr.units; omega) po pi pe hs, fun Ed γ M σ H E r l h => se γ M _ σ H _ r h fun v M1 x H1 o1 i1 e1 h1 => so γ M1 _ σ H1 _ (r.mk' e1 o1) h1 fun od M2 y H2 o2 i2 e2 h2 => si γ M2 _ σ H2 _ ((r.mk' e1 o1).mk' e2 o2) h2 fun k M3 z H3 o3 i3 e3 h3 => ?_⟩
  split at h3
  · rename_i a key q
    split at h3
    · rename_i ks ds qa
      obtain ⟨pv, hz, hn⟩ := h3
      have iy := Is.ext e3 _ _ i2
      unfold Is at iy
      obtain ⟨pu, hl, us, ha, il⟩ := o3 a _ qa
      have ez := keyD_ok i3 q
      have hlu : ks.length = us.length := by rw [hl, il.len]
      have kz := putK_zip (k := key) (v := x) hlu
      have ix := Is.ext (e2.trans e3) _ _ i1
      have is3 : (M3 a).isSome = true := by rw [qa]; rfl
      refine ⟨a, _, iy.1, by rw [ez]; exact DPut.k ha (by rw [List.length_zip, ← il.len]; omega), ?_⟩
      rw [kz]
      have x4 : Ext M3 (mset M3 a (.dct (putKs ks key) (putDs ks ds key v))) H3 (upd H3 a (.dK ((putKs ks key).zip (putDs ks us key x)))) := Ext.put is3
      exact l.nx γ _ σ _ ⟨(r.sl.ext ((e1.trans e2).trans e3)).ext x4, o3.setM x4 ⟨pureL_putDs pv pu, putDs_len hl, _, upd_same, IsL.ext x4 _ _ (isL_putDs ix hl il)⟩⟩ (((e1.trans e2).trans e3).trans x4) hn
    · exact h3.elim
  · exact h3.elim
def strKs : List Key → Option (List Str)
  | [] => some []
  | .inr x :: r => (strKs r).map (x :: ·)
  | _ => none
theorem strKs_eq : ∀ {ks : List Key} {ss : List Str}, strKs ks = some ss → ks = ss.map Sum.inr
  | [], ss, h => by cases h; rfl
  | .inr x :: r, ss, h => by
    have h' : (strKs r).map (x :: ·) = some ss := h
    cases q : strKs r with
    | none => rw [q] at h'; cases h'
    | some ts => rw [q] at h'; cases h'; rw [strKs_eq q]; rfl
  | .inl _ :: _, _, h => by cases h
theorem strKs_map (ss : List Str) : strKs (ss.map Sum.inr) = some ss := by
  induction ss with
  | nil => rfl
  | cons x r ih => show (strKs (r.map Sum.inr)).map (x :: ·) = _; rw [ih]; rfl
def oSortD : DC := fun ds M R => match ds with
  | [d] => (match dctI M d with
    | some (ks, _) => (match strKs ks with
      | some ss => ss.length < 64 ∧ ∀ ys : List Str, ys.Perm ss → PyProof.Rows.sortedS ys = true → R (.lst (ys.map D.str)) M
      | none => False)
    | none => False)
  | _ => False
theorem f_sortD {d : D} {M : Mem} {R : DR} {ks : List Key} {ds : List D} {ss : List Str} (h : dctI M d = some (ks, ds)) (h2 : strKs ks = some ss) : oSortD [d] M R = (ss.length < 64 ∧ ∀ ys : List Str, ys.Perm ss → PyProof.Rows.sortedS ys = true → R (.lst (ys.map D.str)) M) := by unfold oSortD; simp only [h, h2]
theorem isL_strs {G : Gx} {M : Mem} {H : Hp} : ∀ ss : List Str, IsL G M H (ss.map D.str) (ss.map V.str)
  | [] => IsL.nil
  | _ :: r => IsL.cons is_str (isL_strs r)
theorem b_sortD (hc : X.calm = true := by rfl) : BQ X C (.builtin "sorted") oSortD := ⟨_, call_sortedD hc, fun ds M R H xs Q ow i1 h k => by
  match ds, h with
  | [d], h =>
    obtain ⟨v, e, q⟩ := isL1 i1
    unfold oSortD at h
    simp only at h
    split at h
    · rename_i ks es hd
      split at h
      · rename_i ss hss
        obtain ⟨a, us, rfl, ha, hl, il⟩ := dct_at ow q hd
        refine ⟨a, ks.zip us, ss, e, ha, ?_, h.1, fun ys p hy hs hp => ?_⟩
        · rw [List.map_fst_zip (by rw [← il.len]; omega), strKs_eq hss]
        · exact k _ M _ _ (ow.new hp) (new_lst ow hp (isL_strs ys)) (Ext.new hp) (h.2 ys hy hs)
      · exact h.elim
    · exact h.elim⟩
end
end Dl
namespace Dl
open PySem L2
theorem okF_dct {M : Mem} {ks : List Key} {i : List D} : okF M (.dct ks i) = True := id rfl
theorem okF_ln {M : Mem} {t p o : Int} : okF M (.ln t p o) = True := id rfl
theorem fldD_dct {ks : List Key} {i : List D} : fldD (.dct ks i) = pureL i := id rfl
section
variable {X : Cx} {C : Addr} {o : Expr} {vo : DE} {pos apos cpos p : Pos}
def tKeysL (td : TE) : TE := fun σ H Q => td σ H fun x H1 => ∃ a kvs, x = .ref a ∧ Rd H1 a (.dK kvs) ∧ ∀ p, H1 p = none → Q (.ref p) (upd H1 p (.lst (kvs.map fun kv => kV kv.1)))
open PySem.Spec PyProof.Rows in
theorem pe_keysL {td : TE} (hcalm : X.calm = true) (hg : Gl X "list") (hm : X.mg "list" = none) (he : PE X o td) (hbase : attributeBase o "keys" X.env (eval o X.env) = eval o X.env := by rfl) (hline : (apos.endLine == cpos.line) = true := by rfl)
    (hs : backTo pos (starEach [.Call (.Attribute o "keys" apos) [] [] cpos] X.env) = [(false, eval (.Call (.Attribute o "keys" apos) [] [] cpos) X.env)] := by rfl) :
    PE X (.Call (.Name "list" p) [.Call (.Attribute o "keys" apos) [] [] cpos] [] pos) (tKeysL td) := by
  refine ⟨fun pins s σ H Q I h => Call_ (ld_blt I hg hm PyProof.Rows.boot_list ?_)⟩
  show wpAny _ _ (callWith pos (.type "list") [] (backTo pos (starEach [.Call (.Attribute o "keys" apos) [] [] cpos] X.env)) []) _ _ _
  rw [hs]
  refine PyProof.Rows.callWith_type rfl (Calls.evalArgs_plain (Calls.spliced_cons ?_))
  refine wpAny_Call_method (T := "dict") (id := "dict.keys") hbase rfl hline F.plainAttrs_dict F.slot_dict_keys F.type_dict_keys (thn (he.run pins _ σ H _ (I.tok _) h) fun u s1 ⟨x, H1, I1, rx, a, kvs, ex, hd, q⟩ => ?_)
  subst ex
  obtain rfl : u = Value.ref a := rx
  obtain ⟨z, lo, vs, rel, dd⟩ := dk_rd I1.hok hd
  obtain ⟨ep, hat⟩ := dd.dictAt
  refine ⟨dd.typeIs, fun b e => ?_, ?_⟩
  · cases e
    obtain ⟨ob, _, _, h1, h2, _⟩ := dd
    exact ⟨ob, h1, h2.2.1⟩
  have I2 : Inv X pins σ H1 { s1 with heap := s1.heap.push { cls := .type "dict_keys", data := .fields #[.ref a] } } := I1.kept (t' := s1.toks) fun b ob e => Heap.get?_push_of_some _ e
  have ek : (kvs.map fun kv => kV kv.1) = vs.map fun p => kV p.1 := by
    have e := congrArg (List.map kV) rel.keys
    rw [List.map_map, List.map_map] at e
    exact e
  refine PySem.method_meetsIn F.slot_dict_keys F.entry_dict_keys rfl (PySem.evalArgs_none ⟨rfl, dd.typeIs, F.args_dict_keys_1 _, _, PySem.W.kdl_meets_keys (mixKind X.prog X.w) a lo, ⟨vs, dd⟩, ?_⟩)
  refine Calls.spliced_nil ?_
  show wpAny _ _ (call (.type "list") [.ref s1.heap.objs.size]) _ _ _
  refine PySem.W.kdl_call (PySem.W.kdl_keys (knd := mixKind X.prog X.w) (r := s1.heap.objs.size) (d := a) (kvs := vs) (ep := ep)) (I2.ok.hd hcalm) ⟨⟨_, Heap.get?_push_size _ rfl, rfl, rfl⟩, hat.push _⟩ (by rw [← rel.length]; exact z) fun h' tk acc c' hk hD hacc => ?_
  have hv : Vals (vs.map fun p => kV p.1) acc.toList := keys_at (by rw [Array.length_toList]; exact hacc.1) fun j v e => hacc.2 j v (by rw [← Array.getElem?_toList]; exact e)
  refine ⟨.ref _, upd H1 (s1.heap.push { cls := .type "dict_keys", data := .fields #[.ref a] }).objs.size (.lst (kvs.map fun kv => kV kv.1)), I2.laid (t' := tk) hk (Nat.le_refl _)
    (show ObjOk X.prog X.w _ _ _ (.lst (kvs.map fun kv => kV kv.1)) from ⟨by rw [List.length_map]; exact z, acc.toList, c', by rw [ek]; exact hv, by rw [Array.toArray_toList]; exact hD⟩), rfl, q _ (I2.hok.fresh (Nat.le_refl _))⟩
def vKeysL (o : DE) : DE := fun γ M R => o γ M fun d M1 => match dctI M1 d with
  | some (ks, _) => R (.lst (ks.map datK)) M1
  | none => False
theorem e_vKeysL (o : DE) (γ : Gm) (M : Mem) (R : DR) : vKeysL o γ M R = (o γ M fun d M1 => match dctI M1 d with
  | some (ks, _) => R (.lst (ks.map datK)) M1
  | none => False) := propext Iff.rfl
theorem isL_keys {G : Gx} {M : Mem} {H : Hp} : ∀ ks : List Key, IsL G M H (ks.map datK) (ks.map kV)
  | [] => IsL.nil
  | .inl _ :: r => IsL.cons is_int (isL_keys r)
  | .inr _ :: r => IsL.cons is_str (isL_keys r)
theorem q_keysL (hm : X.mg "list" = none) (ho : QE X C o vo) (hg : Gl X "list" := by rfl) (hc : X.calm = true := by rfl) (hbase : attributeBase o "keys" X.env (eval o X.env) = eval o X.env := by rfl) (hline : (apos.endLine == cpos.line) = true := by rfl)
    (hs : backTo pos (starEach [.Call (.Attribute o "keys" apos) [] [] cpos] X.env) = [(false, eval (.Call (.Attribute o "keys" apos) [] [] cpos) X.env)] := by rfl) :
    QE X C (.Call (.Name "list" p) [.Call (.Attribute o "keys" apos) [] [] cpos] [] pos) (vKeysL vo) := by
  obtain ⟨to, po, so⟩ := ho.ex
  refine ⟨_, pe_keysL hc hg hm po hbase hline hs, fun γ M R σ H Q r h kk => so γ M _ σ H _ r h fun d M1 x H1 o1 i1 e1 h1 => ?_⟩
  split at h1
  · rename_i ks ds q
    obtain ⟨a, xs, ex, ha, hl, il⟩ := dct_at o1 i1 q
    refine ⟨a, _, ex, ha, fun p hp => ?_⟩
    have e2 : ((ks.zip xs).map fun kv => kV kv.1) = ks.map kV := by
      have e3 : (ks.zip xs).map (·.1) = ks := List.map_fst_zip (by rw [← il.len]; omega)
      have := congrArg (List.map kV) e3
      rw [List.map_map] at this
      exact this
    rw [e2]
    exact kk _ M1 _ _ (o1.new hp) (new_lst o1 hp (isL_keys ks)) (e1.trans (Ext.new hp)) h1
  · exact h1.elim
end
section
variable {X : Cx} {C : Addr} {tg e : Expr} {ve : DE}
def sgs (x : Str) : List D := x.cps.toList.map fun c => D.str ⟨#[c]⟩
theorem sgs_get {x : Str} {i : Nat} {d : D} : (sgs x)[i]? = some d ↔ ∃ c, x.cps[i]? = some c ∧ d = .str ⟨#[c]⟩ := by
  unfold sgs
  rw [List.getElem?_map, Option.map_eq_some_iff, Array.getElem?_toList]
  constructor
  · rintro ⟨c, h, rfl⟩; exact ⟨c, h, rfl⟩
  · rintro ⟨c, h, rfl⟩; exact ⟨c, h, rfl⟩
theorem sgs_len {x : Str} : (sgs x).length = x.cps.size := by unfold sgs; simp
theorem itR_str {G : Gx} {M1 : Mem} {H1 : Hp} {x : Str} : ItR G M1 H1 (Its x) ⟨sgs x, fun _ => True⟩ := by
  intro M H xx o st i
  refine ⟨fun d hd => ?_, fun hn => ?_⟩
  · obtain ⟨c, hc, rfl⟩ := sgs_get.mp hd
    have hi : i < x.cps.size := by
      rcases Nat.lt_or_ge i x.cps.size with h | h
      · exact h
      · rw [Array.getElem?_eq_none h] at hc; cases hc
    refine ⟨hi, fun y H' hy => ?_⟩
    obtain ⟨eH, c', hc', ey⟩ := hy
    subst eH
    rw [hc] at hc'
    cases hc'
    rw [ey]
    exact ⟨o, is_str, Ext.refl⟩
  · show x.cps.size ≤ i
    rw [← sgs_len]; exact hn
def wStr (a : DE) : DI := fun γ M R => a γ M fun d M1 => match d with
  | .str x => R ⟨sgs x, fun _ => True⟩ M1
  | _ => False
theorem e_wStr (a : DE) (γ : Gm) (M : Mem) (R : ItD → Mem → Prop) : wStr a γ M R = (a γ M fun d M1 => match d with
  | .str x => R ⟨sgs x, fun _ => True⟩ M1
  | _ => False) := propext Iff.rfl
theorem qi_str (he : QE X C e ve) : QI X C tg e (wStr ve) := by
  obtain ⟨t, p, s⟩ := he.ex
  refine ⟨_, pi_str p, fun γ M R σ H Q r h k => s γ M _ σ H _ r h fun d M1 x H1 o1 i1 e1 h1 => ?_⟩
  cases d with
  | str y =>
    unfold Is at i1
    exact ⟨y, i1, k _ _ M1 H1 o1 e1 itR_str h1⟩
  | _ => exact False.elim h1
theorem mf_str {g : DG} {t : DT} {ve e : DE} {vs : List Nat} {γ : Gm} {M M1 : Mem} {R : DR} (c : D → Bool) (f : D → D) (x : Str) (hve : ∀ F : DR, F (.str x) M1 → ve γ M F) (hl : x.cps.size < sizeLine) (hp : ∀ d ∈ sgs x, c d = true → pureD (f d) = true)
    (step : ∀ (i : Nat) (d : D) (p : Addr) (acc : List D) (P : DR) (Q : Mem → Prop), (sgs x)[i]? = some d → M1 p = none → (c d = true → P (f d) (mset M1 p (.lst acc))) → (c d = false → Q (mset M1 p (.lst acc))) →
      g d (gwipe γ vs) (mset M1 p (.lst acc)) fun γ2 M2 => t γ2 M2 fun b M3 => (b = true → e γ2 M3 P) ∧ (b = false → Q M3))
    (hR : R (.lst (((sgs x).filter c).map f)) M1) : vLc (wStr ve) g t e vs γ M R :=
  hve _ (lc_mf (j := ⟨sgs x, fun _ => True⟩) c f (by show (sgs x).length < _; rw [sgs_len]; exact hl) (fun _ _ _ => trivial) hp step hR)
def oInSg (f : Bool → Bool) : DO := fun d e M R => ∃ (c : Nat) (z : Str), d = .str ⟨#[c]⟩ ∧ e = .str z ∧ R (.bl (f (decide (c ∈ z.cps.toList)))) M
theorem e_oInSg (f : Bool → Bool) (d e : D) (M : Mem) (R : DR) : oInSg f d e M R = (∃ (c : Nat) (z : Str), d = .str ⟨#[c]⟩ ∧ e = .str z ∧ R (.bl (f (decide (c ∈ z.cps.toList)))) M) := id rfl
theorem c_notInSg : CmpQ X C .NotIn (oInSg Bool.not) := ⟨_, op_notIn_sign, fun d e M R H x y Q o i1 i2 h k => by
  obtain ⟨c, z, rfl, rfl, h⟩ := h
  unfold Is at i1 i2
  exact ⟨c, z, i1, i2, k _ M _ H o is_bl Ext.refl h⟩⟩
end
def vDc (w : DI) (g : DG) (t : DT) (ek ev : DE) (vs : List Nat) : DE := fun γ M R => w γ M fun j M1 => ∀ p, M1 p = none → ∃ W : Nat → List Key → List D → Mem → Prop, W 0 [] [] M1 ∧
  (∀ i ks ds M', W i ks ds M' → M' p = none ∧ ds.length < sizeLine ∧ j.st (mset M' p (.dct ks ds))) ∧
  (∀ i ks ds M' d, W i ks ds M' → j.its[i]? = some d → g d (gwipe γ vs) (mset M' p (.dct ks ds)) fun γ2 M2 => t γ2 M2 fun b M3 =>
    (b = true → ek γ2 M3 fun x M4 => ev γ2 M4 fun y M5 => ∃ k, keyD x = some k ∧ pureD y = true ∧ ∃ M6, M5 = mset M6 p (.dct ks ds) ∧ W (i + 1) (putKs ks k) (putDs ks ds k y) M6) ∧ (b = false → ∃ M5, M3 = mset M5 p (.dct ks ds) ∧ W (i + 1) ks ds M5)) ∧
  (∀ ks ds M', W j.its.length ks ds M' → R (.dct ks ds) M')
theorem snd_dc {G : Gx} {wi : TI} {w : DI} {g : DG} {t : DT} {vk vv : DE} {vs : List Nat} (si : SndI G wi w) : Snd G (tDc wi (liftG G g vs) (liftT G t) (Dl.lift G vk) (Dl.lift G vv) vs) (vDc w g t vk vv vs) := by
  intro γ M R σ H Q r h k
  refine si γ M _ σ H _ r h fun j J M1 H1 o1 e1 ir h1 p hp => ?_
  have mp : M1 p = none := o1.fresh hp
  obtain ⟨W, w0, ws, step, fin⟩ := h1 p mp
  have x0 : Ext M1 (mset M1 p (.dct [] [])) H1 (upd H1 p (.dK [])) := Ext.newOwn hp
  have own0 : Own G (mset M1 p (.dct [] [])) (upd H1 p (.dK [])) := o1.setM x0 ⟨rfl, rfl, [], upd_same, IsL.nil⟩
  refine ⟨fun i m H' => m = j.its.length - i ∧ i ≤ j.its.length ∧ ∃ ks ds M', Own G (mset M' p (.dct ks ds)) H' ∧ Ext M1 (mset M' p (.dct ks ds)) H1 H' ∧ W i ks ds M', ⟨j.its.length, by simp, Nat.zero_le _, [], [], M1, own0, x0, w0⟩, ?_⟩
  rintro i m H' ⟨rfl, hi, ks, ds, M', oM, eM, wi'⟩
  obtain ⟨mp', hz, hst⟩ := ws i ks ds M' wi'
  obtain ⟨go, stop⟩ := ir _ H' eM oM hst i
  by_cases hlt : i < j.its.length
  · have hd : j.its[i]? = some j.its[i] := by simp [hlt]
    obtain ⟨g1, y1⟩ := go _ hd
    refine .inr ⟨g1, fun H2 => ∃ ks ds M', Own G (mset M' p (.dct ks ds)) H2 ∧ Ext M1 (mset M' p (.dct ks ds)) H1 H2 ∧ W (i + 1) ks ds M', fun H2 q => ⟨j.its.length - (i + 1), by omega, rfl, hlt, q⟩, fun x H2 hy => ?_⟩
    obtain ⟨o2, i2, e2⟩ := y1 x H2 hy
    have x2 := eM.trans e2
    refine ⟨j.its[i], gwipe γ vs, mset M' p (.dct ks ds), _, ⟨((r.sl.ext (e1.trans x2)).wipe vs), o2⟩, i2, step i ks ds M' _ wi' hd, fun γ3 M3 σ3 H3 r3 e3 w3 h3 => ⟨w3.trans wipe_wipe, ?_⟩⟩
    refine ⟨γ3, M3, _, r3, h3, fun b M4 H4 o4 e4 h4 => ?_⟩
    cases b with
    | true =>
      rw [if_pos rfl]
      refine ⟨γ3, M4, _, r3.mk' e4 o4, h4.1 rfl, fun x M5 v H5 o5 i5 e5 h5 => ?_⟩
      refine ⟨γ3, M5, _, (r3.mk' e4 o4).mk' e5 o5, h5, fun y M6 u H6 o6 i6 e6 h6 => ?_⟩
      obtain ⟨key, ek, pu, M7, eq, w7⟩ := h6
      subst eq
      obtain ⟨pa, hl, xs, hx, il⟩ := o6 p (.dct ks ds) mset_same
      have hlu : ks.length = xs.length := by rw [hl, il.len]
      refine ⟨ks.zip xs, key, keyD_ok i5 ek, hx, by rw [List.length_zip, ← il.len]; omega, putKs ks key, putDs ks ds key y, M7, ?_, ?_, w7⟩
      · rw [putK_zip hlu]
        have x7 : Ext (mset M7 p (.dct ks ds)) (mset (mset M7 p (.dct ks ds)) p (.dct (putKs ks key) (putDs ks ds key y))) H6 (upd H6 p (.dK ((putKs ks key).zip (putDs ks xs key u)))) := Ext.put (by rw [mset_same]; rfl)
        have q := o6.setM x7 ⟨pureL_putDs pu pa, putDs_len hl, _, upd_same, IsL.ext x7 _ _ (isL_putDs i6 hl il)⟩
        rw [mset_set] at q
        exact q
      · rw [putK_zip hlu]
        have q := (((x2.trans e3).trans (e4.trans e5)).trans e6).trans (Ext.put (p := p) (o := .dK ((putKs ks key).zip (putDs ks xs key u))) (m := .dct (putKs ks key) (putDs ks ds key y)) (by rw [mset_same]; rfl))
        rw [mset_set] at q
        exact q
    | false =>
      rw [if_neg Bool.false_ne_true]
      obtain ⟨M6, eq, w6⟩ := h4.2 rfl
      subst eq
      exact ⟨ks, ds, M6, o4, (x2.trans e3).trans e4, w6⟩
  · have en : i = j.its.length := by omega
    subst en
    refine .inl ⟨stop (Nat.le_refl _), ?_⟩
    obtain ⟨pa, hl, xs, hx, il⟩ := oM p (.dct ks ds) mset_same
    have sub : Sub M' (mset M' p (.dct ks ds)) := Sub.set mp'
    have xx := e1.trans eM
    refine k (.dct ks ds) M' (.ref p) H' (oM.sub sub) ?_ (xx.sub sub fun a ha => ?_) (fin ks ds M' wi')
    · unfold Is
      exact ⟨p, xs, rfl, mp', hx, hl, IsL.sub (fun b hb => sub.non hb) ds xs pa il⟩
    · have q := xx.ow a ha
      by_cases hap : a = p
      · subst hap
        have z := e1.ow a ha
        rw [mp] at z; cases z
      · rw [mset_ne hap] at q; exact q
section
variable {X : Cx} {C : Addr} {pos : Pos}
theorem q_dc {kx vx tg iter : Expr} {ifs : List Expr} {scope : Scope} {own : List (Str × Nat)} {w : DI} {g : DG} {t : DT} {vk vv : DE} (hN : X.N.Nodup) (hi : QI X C tg iter w) (ok : BlkOk X.N X.env.scope scope own)
    (hg : ∀ (s : Shared) (H : Hp) (a : Addr) (cl : List (Str × Addr)) (fp : List Addr), QGW (X.blk s H scope (compEnvC scope cl a X.env) fp) C tg g (own.map (·.2))) (ht : ∀ (s : Shared) (H : Hp) (a : Addr) (cl : List (Str × Addr)) (fp : List Addr), QTs (X.blk s H scope (compEnvC scope cl a X.env) fp) C ifs t)
    (hk : ∀ (s : Shared) (H : Hp) (a : Addr) (cl : List (Str × Addr)) (fp : List Addr), QE (X.blk s H scope (compEnvC scope cl a X.env) fp) C kx vk)
    (he : ∀ (s : Shared) (H : Hp) (a : Addr) (cl : List (Str × Addr)) (fp : List Addr), QE (X.blk s H scope (compEnvC scope cl a X.env) fp) C vx vv) (hc : X.calm = true := by rfl) (hs : ∀ x, foldedSetIterable iter X.env x = pure x := by intro _; rfl) :
    QE X C (.DictComp kx vx [⟨tg, iter, ifs, 0⟩] scope pos) (vDc w g t vk vv (own.map (·.2))) := by
  obtain ⟨wi, pi, si⟩ := hi.ex
  exact ⟨_, pe_dc hc hN pi ok (fun s H a cl fp => (hg s H a cl fp).lift) (fun s H a cl fp => (ht s H a cl fp).lift) (fun s H a cl fp => (hk s H a cl fp).lift) (fun s H a cl fp => (he s H a cl fp).lift) hs, snd_dc si⟩
theorem vdc_list {g : DG} {t : DT} {ek ev ve : DE} {vs : List Nat} {γ : Gm} {M M1 : Mem} {R : DR} (c : D → Bool) (kf : D → Key) (vf : D → D) (ds : List D) (hve : ∀ F : DR, F (.lst ds) M1 → ve γ M F) (hl : ds.length < sizeLine) (nd : (ds.map kf).Nodup) (hp : ∀ d ∈ ds, c d = true → pureD (vf d) = true)
    (step : ∀ (d : D) (p : Addr) (ks : List Key) (es : List D) (P : List Key → List D → Mem → Prop), d ∈ ds → M1 p = none → (c d = true → P (putKs ks (kf d)) (putDs ks es (kf d) (vf d)) M1) → (c d = false → P ks es M1) →
      g d (gwipe γ vs) (mset M1 p (.dct ks es)) fun γ2 M2 => t γ2 M2 fun b M3 =>
        (b = true → ek γ2 M3 fun x M4 => ev γ2 M4 fun y M5 => ∃ k, keyD x = some k ∧ pureD y = true ∧ ∃ M6, M5 = mset M6 p (.dct ks es) ∧ P (putKs ks k) (putDs ks es k y) M6) ∧ (b = false → ∃ M5, M3 = mset M5 p (.dct ks es) ∧ P ks es M5))
    (hR : R (.dct ((ds.filter c).map kf) ((ds.filter c).map vf)) M1) : vDc (wList ve) g t ek ev vs γ M R := by
  refine hve _ (fun p hpn => ?_)
  have tk : ∀ {i : Nat} {d : D}, ds[i]? = some d → ds.take (i + 1) = ds.take i ++ [d] := fun h => by rw [List.take_succ, h]; rfl
  refine ⟨fun i ks es M' => M' = M1 ∧ ks = ((ds.take i).filter c).map kf ∧ es = ((ds.take i).filter c).map vf, ⟨rfl, rfl, rfl⟩, ?_, ?_, ?_⟩
  · rintro i ks es M' ⟨rfl, rfl, rfl⟩
    refine ⟨hpn, ?_, rfl⟩
    rw [List.length_map]
    refine Nat.lt_of_le_of_lt (List.length_filter_le _ _) ?_
    rw [List.length_take]
    exact Nat.lt_of_le_of_lt (Nat.min_le_right _ _) hl
  · rintro i ks es M' d ⟨rfl, rfl, rfl⟩ hd
    refine step d p _ _ (fun ks es M2 => M2 = M' ∧ ks = ((ds.take (i + 1)).filter c).map kf ∧ es = ((ds.take (i + 1)).filter c).map vf) (List.mem_of_getElem? hd) hpn (fun h => ⟨rfl, ?_⟩) (fun h => ⟨rfl, ?_⟩)
    · have hni : kf d ∉ ((ds.take i).filter c).map kf := fun z => by
        obtain ⟨y, hy, e⟩ := List.mem_map.mp z
        have hy := (List.mem_filter.mp hy).1
        have nd2 : (((ds.take i).map kf) ++ [kf d]).Nodup := by
          have q := nd.sublist ((List.take_sublist (i + 1) ds).map kf)
          rw [tk hd, List.map_append] at q
          exact q
        rw [List.nodup_append] at nd2
        exact nd2.2.2 (kf y) (List.mem_map_of_mem hy) (kf d) (by simp) e
      rw [tk hd, List.filter_append, List.map_append, List.map_append]
      unfold putKs putDs
      rw [if_neg (fun z => hni (hasK_iff.mp z)), if_neg (fun z => hni (hasK_iff.mp z))]
      simp [List.filter_cons, h]
    · rw [tk hd, List.filter_append, List.map_append, List.map_append]
      simp [List.filter_cons, h]
  · rintro ks es M' ⟨rfl, rfl, rfl⟩
    show R (.dct ((((ds).take ds.length).filter c).map kf) (((ds.take ds.length).filter c).map vf)) M'
    rw [List.take_length]; exact hR
end
end Dl
namespace Dl
open PySem L2
def spV (G : Gx) (nmax : Nat) (S : DSp) : Sp := fun vs H Q _ => ∃ (d : D) (es : List D) (M : Mem) (R : DR), es.length ≤ nmax ∧ IsL G M H (d :: es) vs ∧ Own G M H ∧ S [d, .tup es] M R noX ∧
  ∀ d M' x H', Own G M' H' → Is G M' H' d x → Ext M M' H H' → R d M' → Q x H'
theorem cxNew0 : CXNew CX0 := fun _ _ _ _ _ _ _ _ _ _ _ _ h => h
section
variable {P : Program} {w : World} {K : PySem.W.Frag} {mg : Str → Option Value} {base : Heap} {x qual : Str} {params : Arguments} {body : List Stmt} {scope : Scope} {kws : List (Str × V)} {f : Addr} {fd : FuncData}
theorem fn_okV {N : List Str} {pa pv : Str} {k : Nat} {C : Addr} {S : DSp} {v : DS} (n nmax : Nat) (F : FunD K x qual params body scope [] kws f fd) (SC : FnScope N [pa, pv] scope) (hz : nmax ≤ sizeLine)
    (hb : ∀ (kV doc pm : Value) (an : Option Addr) (cdv ct : Value) (u : Value) (rest : List Value), rest.length ≤ nmax → bindArgs (PySem.W.fnOf x qual params body scope .none kV doc pm an cdv ct) ⟨u :: rest, []⟩ = (newTuple rest >>= fun t => pure [(pa, u), (pv, t)]))
    (hq : ∀ (cdv : Value) (A : Around) (outer : List Env) (s : Shared) (H : Hp) (E : XK), Room k (A.deeper (PyProof.Rows.envOfC qual scope s.heap.objs.size f cdv)) → QSs (cxOf CX0 P w K mg base N qual scope f cdv A outer s H E).nox C body v)
    (hv : ∀ ds M R, ds.length = 2 → S ds M R noX → v (fEnds M R) (st0 n ds) M) (hn : N.length = n := by rfl) : FnR P w K mg base CX0 (k + 1) f (spV ⟨K, C⟩ nmax S) := by
  subst hn
  have hpl : 2 ≤ N.length := by have := congrArg List.length SC.pre; rw [List.length_take] at this; simp at this; omega
  obtain ⟨oc, od, dV, kV, doc, pm, an, cdv, ct, osl, e, lk, hcd, hD, hK⟩ := F.ex
  rcases hD with ⟨_, e2⟩ | ⟨z, _⟩
  · subst e; subst e2
    refine FnR.imp (fn_ofV (CX := CX0) (sp := spD ⟨K, C⟩ 2 S) lk hcd SC hz (hb kV doc pm an cdv ct) cxNew0 fun A outer s H vs Q E hr h => ?_) fun vs H Q E h => ?_
    · obtain ⟨ds, M, R, hl, il, ow, hs, k2⟩ := h
      obtain ⟨t, pt, st⟩ := (hq cdv A outer s H E hr).ex
      refine ⟨t, pt.nox, st (fEnds M R) (st0 N.length ds) M _ H _ ⟨st0_rel il (by omega), ow⟩ ⟨?_, ?_, ?_, ?_, ?_⟩ (hv ds M R hl hs)⟩
      · intro γ M' σ H' r' e' h'
        exact fin_ok r'.ow is_non e' h' k2
      · intro d M' y H' o' i' e' h'
        exact fin_ok o' i' e' h' k2
      · intro _ _ _ _ _ _ h'; exact h'.elim
      · intro _ _ _ _ _ _ h'; exact h'.elim
      · intro _ _ _ _ _ _ _ _ _ _ h'; exact h'.elim
    · obtain ⟨d, es, M, R, hn, il, ow, hs, k2⟩ := h
      match vs, il with
      | [], il => unfold IsL at il; exact il.elim
      | v :: rest, il =>
        unfold IsL at il
        refine ⟨v, rest, rfl, by rw [← il.2.len]; exact hn, fun p hp => ?_⟩
        have x2 : Ext M M H (upd H p (.tup rest)) := Ext.new hp
        exact ⟨[d, .tup es], M, R, rfl, IsL.cons (Is.ext x2 _ _ il.1) (IsL.cons (new_tup ow hp il.2) IsL.nil), ow.new hp, hs, fun d' M' y H' o' i' e' h' => k2 d' M' y H' o' i' (x2.trans e') h'⟩
  · exact absurd rfl z
end
structure MVOk (P : Program) (w : World) (K : PySem.W.Frag) (mg : Str → Option Value) (base : Heap) (C : Addr) (k : Nat) (c m : Str) (nmax : Nat) (S : DSp) : Prop where
  ex : ∃ (f : Addr), OCls K c ∧ Meth K (He.ga K c) m f ∧ m ∉ clsF c ∧ FnR P w K mg base CX0 k f (spV ⟨K, C⟩ nmax S)
def vObjV (c : Str) (nmax : Nat) (S : DSp) (o : DE) (a : DA) : DE := fun γ M R => o γ M fun od M1 => match od with
  | .own x => (match M1 x with
    | some (.obj c' _) => c' = c ∧ a γ M1 fun ds M2 => ds.length ≤ nmax ∧ S [.own x, .tup ds] M2 R noX
    | _ => False)
  | _ => False
theorem e_vObjV (c : Str) (nmax : Nat) (S : DSp) (o : DE) (a : DA) (γ : Gm) (M : Mem) (R : DR) : vObjV c nmax S o a γ M R = (o γ M fun od M1 => match od with
  | .own x => (match M1 x with
    | some (.obj c' _) => c' = c ∧ a γ M1 fun ds M2 => ds.length ≤ nmax ∧ S [.own x, .tup ds] M2 R noX
    | _ => False)
  | _ => False) := propext Iff.rfl
section
variable {X : Cx} {C : Addr} {j k nmax : Nat} {S : DSp} {o e : Expr} {es : List Expr} {vo : DE} {va : DA} {c m : Str} {pos apos : Pos}
theorem q_methV (h : MVOk X.prog X.w X.K X.mg X.base C k c m nmax S) (hr : Room j X.A) (hkj : k ≤ j) (ho : QE X C o vo) (ha : QA X C (e :: es) va)
    (hpe : ∀ {C' f : Addr} {sp : Sp} {to : TE} {ta : TA}, PE X o to → Cls X.K C' → Meth X.K C' m f → FnR X.prog X.w X.K X.mg X.base CX0 k f sp → Room k X.A → PA X (e :: es) ta → PE X (.Call (.Attribute o m apos) (e :: es) [] pos) (tMethR C' m sp E0 to ta) := by exact fun h1 h2 h3 h4 h5 h6 => pe_methR h1 h2 h3 h4 h5 pass0 h6) :
    QE X C (.Call (.Attribute o m apos) (e :: es) [] pos) (vObjV c nmax S vo va) := by
  obtain ⟨f, T, hm, hp, F⟩ := h.ex
  obtain ⟨to, po, so⟩ := ho.ex
  obtain ⟨ta, pa, sa⟩ := ha.ex
  refine ⟨_, hpe po T.cls hm F (hr.mono hkj) pa, fun γ M R σ H Q r h kk => so γ M _ σ H _ r h fun od M1 x H1 o1 i1 e1 h1 => ?_⟩
  cases od with
  | own a =>
    simp only at h1
    split at h1
    · rename_i c' ds q
      obtain ⟨rfl, h1⟩ := h1
      obtain ⟨hl, dx, vs, hx, _⟩ := own_obj o1 q
      have i1' := i1
      unfold Is at i1'
      refine ⟨a, dx, _, i1'.1, hx, zip_none hp, sa γ M1 _ σ H1 _ (r.mk' e1 o1) h1 fun ds2 M2 xs H2 o2 i2 e2 h2 => ?_⟩
      exact ⟨.own a, ds2, M2, R, h2.1, IsL.cons (Is.ext e2 _ _ i1) i2, o2, h2.2, fun d' M' y H' o' i' e' h' => kk d' M' y H' o' i' ((e1.trans e2).trans e') h'⟩
    · exact h1.elim
  | _ => exact False.elim h1
end
theorem f_lenDc {ks : List Key} {ds : List D} {M : Mem} {R : DR} : oLenD [.dct ks ds] M R = R (.int ks.length) M := id rfl
theorem f_inDc {f : Bool → Bool} {x : Str} {ks : List Key} {ds : List D} {M : Mem} {R : DR} : oInDct f (.str x) (.dct ks ds) M R = R (.bl (f (dVal ks ds (.inr x)).isSome)) M := id rfl
theorem f_dictc {ks : List Key} {ds : List D} {M : Mem} {R : DR} : oDict [.dct ks ds] M R = R (.dct ks ds) M := id rfl
theorem f_dictOc {ks : List Key} {ds : List D} {M : Mem} {R : DR} : oDictO [.dct ks ds] M R = (pureL ds = true ∧ ∀ p, M p = none → R (.own p) (mset M p (.dct ks ds))) := id rfl
theorem k_str {x : Str} : keyD (.str x) = some (.inr x) := id rfl
theorem k_int {x : Int} : keyD (.int x) = some (.inl x) := id rfl
theorem vdc_eq {ve : DE} {g : DG} {t : DT} {ek ev : DE} {vs : List Nat} {γ : Gm} {M : Mem} {R : DR} : vDc (wList ve) g t ek ev vs γ M R = ve γ M (fun d M1 => vDc (wList (fun _ M2 R2 => R2 d M2)) g t ek ev vs γ M1 R) := id rfl
theorem bb_dict : bootBuiltins "dict" = some (.type "dict") := by decide +kernel
def oEqNO (f : Bool → Bool) : DO := fun d e M R => match d, e with
  | .own a, .lst [] => (match M a with
    | some (.lst ds) => R (.bl (f ds.isEmpty)) M
    | _ => False)
  | _, _ => False
theorem f_eqNO {f : Bool → Bool} {a : Addr} {M : Mem} {R : DR} : oEqNO f (.own a) (.lst []) M R = (match M a with
    | some (.lst ds) => R (.bl (f ds.isEmpty)) M
    | _ => False) := id rfl
theorem sndO_eqNO {G : Gx} {f : Bool → Bool} : SndO G (rEqN f) (oEqNO f) := fun d e M R H x y Q o i1 i2 h k => by
  unfold oEqNO at h
  split at h
  · rename_i a
    split at h
    · rename_i ds q
      unfold Is at i1 i2
      obtain ⟨b, vs, ey, _, hb, hl2⟩ := i2
      have l2 := hl2.len
      have ev : vs = [] := by cases vs with
        | nil => rfl
        | cons _ _ => simp at l2
      subst ev
      obtain ⟨_, us, ha, hl⟩ := o a _ q
      have l1 := hl.len
      refine ⟨a, b, us, i1.1, ey, ha, hb, k _ M _ H o is_bl Ext.refl ?_⟩
      have e : us.isEmpty = ds.isEmpty := by
        cases us <;> cases ds <;> simp at l1 ⊢
      rw [e]
      exact h
    · exact h.elim
  · exact h.elim
theorem c_eqNO {X : Cx} {C : Addr} {k : Nat} (hr : Room k X.A) : CmpQ X C .Eq (oEqNO id) := ⟨_, op_eqNl (by have := hr.units; omega), sndO_eqNO⟩
def oIsF (f : Bool → Bool) : DO := fun d e M R => match d, e with
  | .bl a, .bl false => R (.bl (f (!a))) M
  | _, _ => False
theorem f_isF {f : Bool → Bool} {a : Bool} {M : Mem} {R : DR} : oIsF f (.bl a) (.bl false) M R = R (.bl (f (!a))) M := id rfl
section
variable {X : Cx} {C : Addr}
end
end Dl
namespace Dl
open PySem L2 Builtin Builtin.List
structure RmU (j d : Nat) (A : Around) : Prop where
  hd : A.handled = none
  dp : A.depth + d + 3 * j + 5 < recursionLimit
  un : A.units + d + 16 * j + 200 < cLine
theorem RmU.room {j d : Nat} {A : Around} (r : RmU j d A) : Room j A := ⟨r.hd, by have := r.dp; omega, by have := r.un; omega⟩
theorem RmU.units {j d : Nat} {A : Around} (r : RmU j d A) : A.units + d < cLine := by have := r.un; omega
theorem RmU.le {j d e : Nat} {A : Around} (r : RmU j d A) (h : e ≤ d) : RmU j e A := ⟨r.hd, by have := r.dp; omega, by have := r.un; omega⟩
theorem RmU.bi {j d : Nat} {A : Around} {id : String} (r : RmU j (d + 1) A) (args : Args) (hu : (A.under (.builtin id args)).units = A.units + 1) (hw : (Code.builtin id args).weight = 1) : RmU j d (A.under (.builtin id args)) :=
  ⟨by first | exact r.hd | (simpa [Around.under] using r.hd), by have := r.dp; simp [Around.under, hw]; omega, by rw [hu]; have := r.un; omega⟩
theorem RmU.loop {j d : Nat} {A : Around} (r : RmU j (d + 1) A) (args : Args) : RmU j d (A.under (.builtin "list.__repr__.loop" args)) :=
  r.bi args (units_under_list_loop _ _) (by simp [Code.weight, isGuard_list_loop, Code.frames, Code.isCreation, Code.isCaller, Code.isFrame])
theorem RmU.tup {j d : Nat} {A : Around} (r : RmU j (d + 1) A) (args : Args) : RmU j d (A.under (.builtin "tuple.__repr__" args)) :=
  r.bi args (units_under_tuple_repr _ _) (by simp [Code.weight, isGuard_tuple_repr, Code.frames, Code.isCreation, Code.isCaller, Code.isFrame])
theorem RmU.tupU {j d : Nat} {A : Around} (r : RmU j (d + 1) A) (args : Args) : RmU j d (A.under (.builtin "tuple.__repr__.under" args)) :=
  r.bi args (units_under_tuple_repr_under _ _) (by simp [Code.weight, isGuard_tuple_repr_under, Code.frames, Code.isCreation, Code.isCaller, Code.isFrame])
theorem frames_bi {A : Around} {id : String} {args : Args} {l : Option (List Env)} (h : A.frames = l) : (A.under (.builtin id args)).frames = l := by
  first | exact h | (simpa [Around.under, Code.envs, Code.isFrame, pushEnvs] using h)
def ReprU (X : Cx) (C : Addr) (M : Mem) (H : Hp) (j : Nat) (as : List Addr) (d : Nat) (v : V) (t : Str) : Prop :=
  ∀ (u : Value), RelV v u → ∀ (base : Nat), base + t.length ≤ sizeLine → ∀ (A : Around) (g : List Code) (E : Value → Shared → Prop) (pins : List (Addr × Obj)) (σ : St) (s : Shared) (H1 : Hp) (Q : Str → Shared → Prop),
    A.guards = some g → (∀ b ∈ as, Clear g b) → A.frames = X.A.frames → RmU j d A → Ext M M H H1 → Own ⟨X.K, C⟩ M H1 → Inv X pins σ H1 s →
    (∀ H2 s', Ext M M H1 H2 → Own ⟨X.K, C⟩ M H2 → Inv X pins σ H2 s' → Q t s') → wpAny (model X.prog X.w) A (pyReprUnder base u) Q E s
section
variable {X : Cx} {C : Addr} {M : Mem} {H : Hp} {j d : Nat} {as : List Addr} {v : V} {t : Str}
theorem ReprU.more {as' : List Addr} (h : ReprU X C M H j as d v t) (hs : ∀ b ∈ as, b ∈ as') : ReprU X C M H j as' d v t :=
  fun u r base hb A g E pins σ s H1 Q hg hc hf hr hx ho I k => h u r base hb A g E pins σ s H1 Q hg (fun b hb => hc b (hs b hb)) hf hr hx ho I k
theorem ReprU.level {d' : Nat} (h : ReprU X C M H j as d v t) (hd : d ≤ d') : ReprU X C M H j as d' v t :=
  fun u r base hb A g E pins σ s H1 Q hg hc hf hr hx ho I k => h u r base hb A g E pins σ s H1 Q hg hc hf (hr.le hd) hx ho I k
theorem ReprU.line {k : Nat} {S : DSp} (h : UOk X.prog X.w X.K X.mg X.base C k "__repr__" 1 S) (hkj : k ≤ j) {x : D} (hl : isLn x = true) (i : Is ⟨X.K, C⟩ M H x v) (hs : S [x] M (fun e M' => e = .str t ∧ M' = M) noX) : ReprU X C M H j as d v t := by
  obtain ⟨f, fd, ps, hm, hf, F, hb⟩ := h.ex
  intro u r base hz A g E pins σ s H1 Q hg _ hfr hr hx ho I hQ
  have i1 := Is.ext hx _ _ i
  obtain ⟨a, dx, q, rfl, ha⟩ := ln_at i1 hl
  obtain rfl : u = Value.ref a := r
  obtain ⟨ox, od, J⟩ := inst_at I ha
  obtain ⟨m, Fr⟩ := inv_fr I
  have XX := I.ok.mod.kin.keeps Fr.keep
  have hsp : spD ⟨X.K, C⟩ 1 S [V.ref a] H1 (fun v H' => v = .str t ∧ Ext M M H1 H' ∧ Own ⟨X.K, C⟩ M H') E0 := ⟨[x], M, _, rfl, IsL.cons i1 IsL.nil, ho, hs, fun d' M' y H' o' i' e' h' => by
    obtain ⟨rfl, rfl⟩ := h'
    unfold Is at i'
    exact ⟨i', e', o'⟩⟩
  refine wpAny_pyReprUnder_ref (by omega) ?_
  unfold pyReprObjUnder pyReprObjBy
  refine wpAny_bind (wpAny_cRoomFor (by have := hr.un; omega) ?_)
  refine wpAny_bind (wpAny_bind (J.type.here ((PySem.W.looks_findIn XX hm).here ?_)))
  show wpAny _ _ (if (some (Value.ref f)).isNone = true then _ else _) _ _ _
  rw [if_neg (by simp)]
  have main : wpAny (model X.prog X.w) A (call (.ref f) [.ref a]) (fun w s' => ∃ u, w = .str t u ∧ Q t s') E s := by
    have b := hb s [.ref a] I.kIn (by have := F.len _ _ _ _ hsp; exact this)
    rw [List.append_nil] at b
    have e0 : Env0 X.prog X.w X.K X.mg X.base A X.stack s H1 := ⟨by rw [hfr]; exact I.ok.frames, I.ok.mod, I.bs, Nat.le_trans I.ok.bsz I.sz, I.stack, I.stkFree, I.hok, I.bare⟩
    refine wpAny_call (codeAny_mono (F.run A X.stack s H1 ⟨[.ref a], []⟩ [.ref a] [V.ref a] _ E0 (hr.room.mono hkj) e0 b (.cons rfl .nil) hsp) fun z s' hz => ?_)
    match z, hz with
    | .error u, hz => exact hz.elim
    | .ok (.ret u), hz =>
      obtain ⟨v, H', I', rv, rfl, e', o'⟩ := I.after hz
      obtain ⟨tk, rfl⟩ := rv
      exact ⟨tk, rfl, hQ H' s' e' o' I'⟩
    | .ok .next, hz => exact hz.elim
    | .ok .brk, hz => exact hz.elim
    | .ok .cont, hz => exact hz.elim
  have back : wpAny (model X.prog X.w) A (callSpecialIfBoundBy? (fun g first => match reprUnder? g, first with
    | some twin, [self] => call twin [self, rawInt base]
    | _, _ => call g (first ++ [])) (.ref a) (Str.ofString "__repr__")) (fun r s' => ∃ u, r = some (.str t u) ∧ Q t s') E s := by
    simp only [callSpecialIfBoundBy?, bindSpecialIfBound?]
    refine wpAny_holding (wpAny_bind (wpAny_bind (wpAny_bind (J.type.here ((PySem.W.looks_findIn XX hm).here ?_)))))
    refine wpAny_bind (wpAny_askSetting (wpAny_ite ?_))
    have fin : wpAny (model X.prog X.w) A (call (.ref f) ([.ref a] ++ []) >>= fun v => pure (some v)) (fun r s' => ∃ u, r = some (.str t u) ∧ Q t s') E s := wpAny_bind (wpAny_mono main (fun w s' ⟨u, e, q⟩ => wpAny_pure ⟨u, by rw [e], q⟩) fun _ _ h' => h')
    split
    · exact wpAny_bind ((PySem.W.bind_fn XX _ (beq_iff_eq.mp hf)).here (wpAny_pure (by exact fin)))
    · exact wpAny_tryCatch (wpAny_bind ((PySem.W.bind_fn XX _ (beq_iff_eq.mp hf)).here (wpAny_pure (by exact fin))))
  refine wpAny_bind (wpAny_mono back (fun r s' hr' => ?_) fun _ _ h' => h')
  obtain ⟨u, rfl, q⟩ := hr'
  exact wpAny_bind (wpAny_isInstance (T := "str") (b := true) rfl isSubtype_str_str (wpAny_pure ⟨t, u, rfl, q⟩))
inductive ReprUs (X : Cx) (C : Addr) (M : Mem) (H : Hp) (j : Nat) (as : List Addr) (d : Nat) : List V → List Str → Prop
  | nil : ReprUs X C M H j as d [] []
  | cons {v : V} {t : Str} {vs : List V} {ts : List Str} : ReprU X C M H j as d v t → ReprUs X C M H j as d vs ts → ReprUs X C M H j as d (v :: vs) (t :: ts)
theorem ReprUs.length_eq : ∀ {vs : List V} {ts : List Str}, ReprUs X C M H j as d vs ts → ts.length = vs.length
  | _, _, .nil => rfl
  | _, _, .cons _ h => by simp [h.length_eq]
theorem ReprUs.more {as' : List Addr} {d' : Nat} (hs : ∀ b ∈ as, b ∈ as') (hd : d ≤ d') : ∀ {vs : List V} {ts : List Str}, ReprUs X C M H j as d vs ts → ReprUs X C M H j as' d' vs ts
  | _, _, .nil => .nil
  | _, _, .cons a h => .cons ((a.more hs).level hd) (h.more hs hd)
theorem ReprUs.item : ∀ {vs : List V} {ts : List Str}, ReprUs X C M H j as d vs ts → ∀ (i : Nat) (v : V), vs[i]? = some v → ∃ t, ts[i]? = some t ∧ ReprU X C M H j as d v t
  | _, _, .nil, _, _, e => by simp at e
  | _, _, .cons hx _, 0, _, e => by
    simp at e
    subst e
    exact ⟨_, rfl, hx⟩
  | _, _, .cons _ hl, i + 1, y, e => by
    obtain ⟨t, ht, hk⟩ := hl.item i y (by simpa using e)
    exact ⟨t, by simpa using ht, hk⟩
theorem tupFoldU {E : Value → Shared → Prop} {A : Around} {g : List Code} {pins : List (Addr × Obj)} {σ : St} (hg : A.guards = some g) (hcl : ∀ b ∈ as, Clear g b) (hf : A.frames = X.A.frames) (hr : RmU j d A) :
    ∀ (vs : List V) (us : List Value) (ts : List Str) (acc : Array Str) (n : Nat) (s : Shared) (H1 : Hp) (Q : (Array Str × Nat) → Shared → Prop), ReprUs X C M H j as d vs ts → Vals vs us → n + piled ts ≤ sizeLine → Ext M M H H1 → Own ⟨X.K, C⟩ M H1 → Inv X pins σ H1 s →
    (∀ H2 s', Ext M M H1 H2 → Own ⟨X.K, C⟩ M H2 → Inv X pins σ H2 s' → Q ⟨acc ++ ts.toArray, n + piled ts⟩ s') →
    wpAny (model X.prog X.w) A (forIn us (⟨acc, n⟩ : (Array Str × Nat)) tupBody) Q E s := by
  intro vs
  induction vs with
  | nil =>
    intro us ts acc n s H1 Q hT hv _ hx ho I h
    cases hT
    cases hv
    have h0 := h H1 s Ext.refl ho I
    simp only [List.forIn_nil]
    exact wpAny_pure (by simpa [piled] using h0)
  | cons v vs ih =>
    intro us ts acc n s H1 Q hT hv hn hx ho I h
    cases hT with
    | cons ha hl =>
      cases hv with
      | cons rv rl =>
      rename_i t ts' u us'
      rw [piled_cons] at hn
      rw [List.forIn_cons]
      refine wpAny_bind (wpAny_bind (ha u rv (n + 1) (by omega) A g E pins σ s H1 _ hg hcl hf hr hx ho I fun H2 s2 hx2 ho2 I2 => wpAny_pure ?_))
      refine ih us' ts' (acc.push t) (n + (t.length + 2)) s2 H2 Q hl rl (by omega) (hx.trans hx2) ho2 I2 fun H3 s3 hx3 ho3 I3 => ?_
      have h1 := h H3 s3 (hx2.trans hx3) ho3 I3
      have e : n + piled (t :: ts') = n + (t.length + 2) + piled ts' := by rw [piled_cons]; omega
      rw [e] at h1
      simpa using h1
theorem tupleAtU {a : Addr} {xs : List V} {ts : List Str} (hM : M a = none) (hH : H a = some (.tup xs)) (hna : a ∉ as) (hT : ReprUs X C M H j as d xs ts)
    {A : Around} {g : List Code} {pins : List (Addr × Obj)} {σ : St} {s : Shared} {H1 : Hp} {R : Result → Shared → Prop} {base : Nat} {id : String} {rest : List Value}
    (hcg : (Code.builtin id ⟨.ref a :: rest, []⟩).isGuard = true) (hcu : RmU j d (A.under (.builtin id ⟨.ref a :: rest, []⟩)))
    (hg : A.guards = some g) (hcl : ∀ b ∈ a :: as, Clear g b) (hf : A.frames = X.A.frames) (hx : Ext M M H H1) (ho : Own ⟨X.K, C⟩ M H1) (I : Inv X pins σ H1 s)
    (hR : ∀ H2 s' u, Ext M M H1 H2 → Own ⟨X.K, C⟩ M H2 → Inv X pins σ H2 s' → R (.ok (.ret (.str (tupleText ts) u))) s')
    (hsz : base + (tupleText ts).length ≤ sizeLine) :
    wpOwn (model X.prog X.w) A (.builtin id ⟨.ref a :: rest, []⟩) (Builtin.tupleReprAt base ⟨[.ref a], []⟩) (fun fin s' => match fin with | .done f => R (.ok f) s' | .again c' => c'.quiet = true ∧ codeAny (model X.prog X.w) A c' R s') (fun e s' => R (.error e) s') s := by
  have hca : Clear g a := hcl a (.head _)
  obtain ⟨its, rv, ⟨o, ha, hc, n, hd⟩, _⟩ := I.tuple (show SqT X.K H1 a xs from .inl (.inl (hx.st a _ hM hH).1))
  have hlen : ts.length = its.length := by rw [hT.length_eq]; exact rv.length
  have hp := piled_le_tupleText ts
  have hsz0 : (tupleText ts).length ≤ sizeLine := by omega
  rw [tuple_repr_tree, tupleReprUnderWay_eq]
  refine wpOwn_bind (wpOwn_stackTailAny hg (tupGuardF_off _) (tupGuardF_pos _) ?_)
  have hn : (g.any fun c => tupGuardF (.ref a) (c, default)) = false := by
    rw [List.any_eq_false]
    intro c hcm
    rw [tupGuardF_of_clear hca c hcm]
    exact Bool.false_ne_true
  rw [hn]
  refine wpOwn_of_wpAny ?_
  show wpAny _ _ (tupleReprRest base (.ref a)) _ _ s
  unfold tupleReprRest Builtin.Tuple.tupleItemsOf
  refine wpAny_bind (wpAny_bind (wpAny_seqItems ha hd (wpAny_pure ?_)))
  rw [← Array.forIn_toList]
  refine wpAny_bind (tupFoldU (guards_under_guard hcg hg) (fun b hb => (hcl b (.tail _ hb)).cons (a := a) fun e => hna (e ▸ hb)) (frames_bi hf) hcu xs its ts _ _ s H1 _ hT rv (by omega) hx ho I fun H2 s2 hx2 ho2 I2 => ?_)
  refine wpAny_bind (wpAny_mkStr (wpAny_pure ?_) (by simpa [tupleText, hlen] using hsz0))
  have h1 := hR H2 { s2 with toks := s2.toks + 1 } s2.toks hx2 ho2 (I2.tok _)
  simpa [tupleText, hlen] using h1
theorem tuple_underU {a : Addr} {xs : List V} {ts : List Str} (hM : M a = none) (hH : H a = some (.tup xs)) (hna : a ∉ as) (hT : ReprUs X C M H j as d xs ts)
    {A : Around} {g : List Code} {pins : List (Addr × Obj)} {σ : St} {s : Shared} {H1 : Hp} {E : Value → Shared → Prop} {Q : Value → Shared → Prop} {base : Nat}
    (hg : A.guards = some g) (hcl : ∀ b ∈ a :: as, Clear g b) (hf : A.frames = X.A.frames) (hr : RmU j (d + 1) A) (hx : Ext M M H H1) (ho : Own ⟨X.K, C⟩ M H1) (I : Inv X pins σ H1 s)
    (hQ : ∀ H2 s' u, Ext M M H1 H2 → Own ⟨X.K, C⟩ M H2 → Inv X pins σ H2 s' → Q (.str (tupleText ts) u) s')
    (hsz : base + (tupleText ts).length ≤ sizeLine) :
    wpAny (model X.prog X.w) A (call (.builtin "tuple.__repr__.under") [.ref a, rawInt base]) Q E s := by
  obtain ⟨its, rv, ⟨o, ha, hc, n, hd⟩, _⟩ := I.tuple (show SqT X.K H1 a xs from .inl (.inl (hx.st a _ hM hH).1))
  exact call_twin_own (F.quiet_tuple_repr_under _) F.entry_tuple_repr_under F.check_tuple_repr_under ⟨o, ha, hc⟩ F.slot_tuple_repr (F.args_tuple_repr_1 _)
    (tupleAtU (R := callEnd Q E) hM hH hna hT (isGuard_tuple_repr_under _) (hr.tupU _) hg hcl hf hx ho I hQ hsz)
theorem ReprU.tuple {a : Addr} {xs : List V} {ts : List Str} (hM : M a = none) (hH : H a = some (.tup xs)) (hna : a ∉ as) (hT : ReprUs X C M H j as d xs ts) : ReprU X C M H j (a :: as) (d + 1) (.ref a) (tupleText ts) := by
  intro u r base hb A g E pins σ s H1 Q hg hcl hf hr hx ho I hQ
  obtain rfl : u = Value.ref a := r
  obtain ⟨its, rv, ⟨o, ha, hc, n, hd⟩, _⟩ := I.tuple (show SqT X.K H1 a xs from .inl (.inl (hx.st a _ hM hH).1))
  refine wpAny_pyReprUnder_ref (by omega) ?_
  exact wpAny_pyReprObjUnder_twin (twin := "tuple.__repr__.under") ⟨o, ha, hc⟩ F.slot_tuple_repr rfl (by have := hr.un; omega)
    (tuple_underU hM hH hna hT hg hcl hf hr hx ho I (fun H2 s' u e o' I' => ⟨⟨_, _, rfl⟩, _, _, rfl, hQ H2 s' e o' I'⟩) hb)
def pileO (acc : Array Value) (c : Nat) : Obj := { cls := .type "list", dict := none, data := .seq acc c, slots := #[] }
theorem list_loopU {a P : Addr} {xs : List V} {ts : List Str} (hM : M a = none) (hH : H a = some (.lst xs)) (hna : a ∉ as) (hT : ReprUs X C M H j as d xs ts)
    {A : Around} {g : List Code} {pins : List (Addr × Obj)} {σ : St} {base : Nat} {R : Result → Shared → Prop}
    (hg : A.guards = some g) (hcl : ∀ b ∈ as, Clear g b) (hf : A.frames = X.A.frames) (hr : RmU j (d + 1) A)
    (hP1 : X.s_0.heap.objs.size ≤ P) (hP3 : ∀ p ∈ X.pn ++ pins, p.1 ≠ P) (hPL : P ≠ X.env.locals) (hPf : P ∉ X.fs)
    (hsz : base + (listText ts).length ≤ sizeLine) :
    ∀ (k i : Nat) (s : Shared) (H1 : Hp) (acc : Array Value) (c : Nat) (done : List (Str × Tok)), xs.length - i = k → i ≤ xs.length → Ext M M H H1 → Own ⟨X.K, C⟩ M H1 → Inv X ((P, pileO acc c) :: pins) σ H1 s →
    acc.toList = strValues done → done.map (·.1) = ts.take i →
    (∀ H2 s' u, Ext M M H1 H2 → Own ⟨X.K, C⟩ M H2 → Inv X pins σ H2 s' → R (.ok (.ret (.str (listText ts) u))) s') →
    codeAny (model X.prog X.w) A (.builtin "list.__repr__.loop" ⟨[.ref a, rawInt i, .ref P, rawInt ((base + piled (ts.take i) : Nat) : Int)], []⟩) R s := by
  have hlen := hT.length_eq
  have hX : (listText ts).length = (textFrom 0 "[" ts).length + 1 := by
    show (textFrom 0 "[" ts ++ "]").length = _
    rw [strLen_append]; rfl
  have hL := textFrom_len ts 0 "["
  have hsz1 : xs.length ≤ sizeLine := by
    have h1 := hL.1
    rw [if_neg (Nat.lt_irrefl 0)] at h1
    omega
  have hsz2 : ∀ t ∈ ts, t.length ≤ sizeLine := fun t ht => by
    have h2 := hL.2.1 t ht
    omega
  have hsz3 : (listText ts).length ≤ sizeLine := by omega
  have hp3 := piled_le_listText ts
  have unpin : ∀ {acc c s H1}, Inv X ((P, pileO acc c) :: pins) σ H1 s → Inv X pins σ H1 s := fun I => I.pins_of fun p hp => I.pin p (List.mem_append_right _ (List.mem_cons_of_mem _ hp))
  have atP : ∀ {acc c s H1}, Inv X ((P, pileO acc c) :: pins) σ H1 s → s.heap.get? P = some (pileO acc c) ∧ H1 P = none := fun I => by
    have := I.pin (P, _) (List.mem_append_right _ List.mem_cons_self)
    exact ⟨this.1, this.2.1⟩
  intro k
  induction k with
  | zero =>
    intro i s H1 acc c done hk hi hx ho I hacc hdone hR
    have hin : i = xs.length := by omega
    obtain ⟨its, rv, ⟨o, n, ha, hc, _, hd⟩, _⟩ := I.list (show SqL X.K H1 a xs from .inl (.inl (hx.st a _ hM hH).1))
    have il : its.length = xs.length := rv.length.symm
    refine codeAny_builtin F.entry_list_repr_loop ?_
    show wpAny _ _ («list.__repr__.loop» ⟨[.ref a, .int i 0, .ref P, .int ((base + piled (ts.take i) : Nat) : Int) 0], []⟩) _ _ s
    rw [repr_loop_tree]
    refine wpAny_bind (wpAny_listItems ha hd ?_)
    have hnone : its.toArray[(i : Int).toNat]? = none := by simp [hin, il]
    simp only [hnone]
    unfold reprEnd
    refine wpAny_bind (wpAny_listItems (atP I).1 rfl ?_)
    rw [hacc, repr_fold]
    refine wpAny_bind (wpAny_pure ?_)
    have hall : done.map (·.1) = ts := by rw [hdone, hin, ← hlen, List.take_length]
    rw [hall]
    refine wpAny_bind (wpAny_mkStr (wpAny_pure ?_) hsz3)
    exact hR H1 _ _ Ext.refl ho ((unpin I).tok _)
  | succ k ih =>
    intro i s H1 acc c done hk hi hx ho I hacc hdone hR
    have hlt : i < xs.length := by omega
    obtain ⟨its, rv, ⟨o, n, ha, hc, _, hd⟩, _⟩ := I.list (show SqL X.K H1 a xs from .inl (.inl (hx.st a _ hM hH).1))
    have il : its.length = xs.length := rv.length.symm
    obtain ⟨t, ht, hrep⟩ := hT.item i xs[i] (by simp [hlt])
    have hp1 := piled_take_succ ht
    have hp2 := piled_take_le ts (i + 1)
    obtain ⟨u, hu, rvi⟩ := rv.get (i := i) (x := xs[i]) (by simp [hlt])
    refine codeAny_builtin F.entry_list_repr_loop ?_
    show wpAny _ _ («list.__repr__.loop» ⟨[.ref a, .int i 0, .ref P, .int ((base + piled (ts.take i) : Nat) : Int) 0], []⟩) _ _ s
    rw [repr_loop_tree]
    refine wpAny_bind (wpAny_listItems ha hd ?_)
    have hsome : its.toArray[(i : Int).toNat]? = some u := by rw [Int.toNat_natCast, List.getElem?_toArray]; exact hu
    simp only [hsome]
    rw [Int.toNat_natCast]
    refine wpAny_bind (wpAny_holding (hrep u rvi (base + piled (ts.take i) + 1) (by omega) _ _ _ _ _ s H1 _ (guards_under_guard (isGuard_list_loop _) hg) (fun b hb => (hcl b hb).cons (a := a) fun e => hna (e ▸ hb)) (frames_bi hf) (hr.loop _) hx ho I fun H2 s2 hx2 ho2 I2 => ?_))
    refine wpAny_bind (wpAny_mkStr ?_ (hsz2 t (List.mem_of_getElem? ht)))
    refine wpAny_bind ?_
    show wpAny _ _ (updateSeq P _) _ _ _
    have hasz : acc.size ≤ sizeLine := by
      have e1 : acc.toList.length = acc.size := by simp
      have e2 : (strValues done).length = done.length := by simp [strValues]
      have e3 : done.length = (ts.take i).length := by rw [← hdone, List.length_map]
      have e4 : (ts.take i).length ≤ i := by rw [List.length_take]; omega
      rw [hacc] at e1; omega
    obtain ⟨gP, nP⟩ := atP I2
    refine wpAny_updateSeq gP rfl (wpAny_pure ⟨F.quiet_list_repr_loop _, ?_⟩) hasz
    have e1 : ((i : Int) + 1) = ((i + 1 : Nat) : Int) := by omega
    have e2 : base + piled (ts.take i) + (t.length + 2) = base + piled (ts.take (i + 1)) := by omega
    rw [e1, e2]
    have cP : ∀ x c, X.env.cells.lookup x = some c → c ≠ P := fun x c' e z => by
      obtain ⟨v', o', ho', hd'⟩ := I2.cell x c' e
      rw [z, gP] at ho'
      cases ho'
      cases hd'
    obtain ⟨c', hc'⟩ : ∃ c', Obj.mapSeq (fun x => x.push (.str t s2.toks)) (pileO acc c) = pileO (acc.push (.str t s2.toks)) c' := ⟨_, rfl⟩
    refine ih (i + 1) _ H2 (acc.push (.str t s2.toks)) c' (done ++ [(t, s2.toks)]) (by omega) hlt (hx.trans hx2) ho2 (((unpin I2).turned (it := P) (t' := s2.toks + 1) (fun b o' hb e => (Heap.get?_update_other _ _ (fun h : P = b => hb h.symm)).trans e) nP hPL (.inr hP1) cP hP3).pins_of fun p hp => ?_) (by simp [hacc, strValues]) (by simp [List.take_add_one, ht, hdone]) fun H3 s3 u' hx3 ho3 I3 => hR H3 s3 u' (hx2.trans hx3) ho3 I3
    rcases List.mem_cons.mp hp with rfl | hp
    · exact ⟨(Heap.get?_update_self _ gP (by rw [hc']; rfl)).trans (congrArg some hc'), nP, hPL, hPf, fun v' z => by cases z⟩
    · obtain ⟨z1, z2, z3, z4, z5⟩ := I2.pin p (List.mem_append_right _ (List.mem_cons_of_mem _ hp))
      exact ⟨(Heap.get?_update_other _ _ (fun h : P = p.1 => hP3 p (List.mem_append_right _ hp) h.symm)).trans z1, z2, z3, z4, z5⟩
theorem listAtU {a : Addr} {v0 : V} {l : List V} {ts : List Str} (hM : M a = none) (hH : H a = some (.lst (v0 :: l))) (hna : a ∉ as) (hT : ReprUs X C M H j as d (v0 :: l) ts)
    {A : Around} {g : List Code} {pins : List (Addr × Obj)} {σ : St} {s : Shared} {H1 : Hp} {R : Result → Shared → Prop} {base : Nat}
    (hg : A.guards = some g) (hcl : ∀ b ∈ a :: as, Clear g b) (hf : A.frames = X.A.frames) (hr : RmU j (d + 1) A) (hx : Ext M M H H1) (ho : Own ⟨X.K, C⟩ M H1) (I : Inv X pins σ H1 s)
    (hR : ∀ H2 s' u, Ext M M H1 H2 → Own ⟨X.K, C⟩ M H2 → Inv X pins σ H2 s' → R (.ok (.ret (.str (listText ts) u))) s')
    (hsz : base + (listText ts).length ≤ sizeLine) :
    wpAny (model X.prog X.w) A.in1 (Builtin.listReprAt base ⟨[.ref a], []⟩) (fun fin s' => match fin with | .done f => R (.ok f) s' | .again c' => c'.quiet = true ∧ codeAny (model X.prog X.w) A c' R s') (fun e s' => R (.error e) s') s := by
  have hca : Clear g a := hcl a (.head _)
  obtain ⟨its, rv, ⟨o, n, ha, hc, _, hd⟩, _⟩ := I.list (show SqL X.K H1 a (v0 :: l) from .inl (.inl (hx.st a _ hM hH).1))
  cases rv with
  | cons r0 rl =>
  rename_i u0 us
  refine wpAny_list_repr_head (A := A.in1) hg (fun v rest kw hm => listSameRef_of_ne (hca _ _ _ _ hm)) ha hd ?_
  refine wpAny_bind (m := newList []) (wpAny_newObj_type ?_)
  refine wpAny_pure ⟨F.quiet_list_repr_loop _, ?_⟩
  have keep : ∀ b u, s.heap.get? b = some u → (s.heap.push (pileO #[] 0)).get? b = some u := fun b u e => Heap.get?_push_of_some _ e
  have lt : ∀ {b o}, s.heap.get? b = some o → b ≠ s.heap.objs.size := fun e => Nat.ne_of_lt (Heap.lt_size e)
  have I1 : Inv X pins σ H1 { s with heap := s.heap.push (pileO #[] 0) } := I.kept (t' := s.toks) keep
  have hPL : s.heap.objs.size ≠ X.env.locals := Nat.ne_of_gt I.lt
  have hPf : s.heap.objs.size ∉ X.fs := I.nofs (Nat.le_refl _)
  refine list_loopU (P := s.heap.objs.size) (pins := pins) (σ := σ) hM hH hna hT hg (fun b hb => hcl b (.tail _ hb)) hf hr I.sz (fun p hp => lt (I.pin p hp).1) hPL hPf hsz _ 0 _ H1 #[] 0 [] rfl (Nat.zero_le _) hx ho (I1.pins_of fun p hp => ?_) rfl (by simp) hR
  rcases List.mem_cons.mp hp with rfl | hp
  · exact ⟨Heap.get?_push_size _ rfl, I.hok.fresh (Nat.le_refl _), hPL, hPf, fun v' z => by cases z⟩
  · exact I1.pin p (List.mem_append_right _ hp)
theorem list_underU {a : Addr} {v0 : V} {l : List V} {ts : List Str} (hM : M a = none) (hH : H a = some (.lst (v0 :: l))) (hna : a ∉ as) (hT : ReprUs X C M H j as d (v0 :: l) ts)
    {A : Around} {g : List Code} {pins : List (Addr × Obj)} {σ : St} {s : Shared} {H1 : Hp} {E : Value → Shared → Prop} {Q : Value → Shared → Prop} {base : Nat}
    (hg : A.guards = some g) (hcl : ∀ b ∈ a :: as, Clear g b) (hf : A.frames = X.A.frames) (hr : RmU j (d + 1) A) (hx : Ext M M H H1) (ho : Own ⟨X.K, C⟩ M H1) (I : Inv X pins σ H1 s)
    (hQ : ∀ H2 s' u, Ext M M H1 H2 → Own ⟨X.K, C⟩ M H2 → Inv X pins σ H2 s' → Q (.str (listText ts) u) s')
    (hsz : base + (listText ts).length ≤ sizeLine) :
    wpAny (model X.prog X.w) A (call (.builtin "list.__repr__.under") [.ref a, rawInt base]) Q E s := by
  obtain ⟨its, rv, ⟨o, n, ha, hc, _, hd⟩, _⟩ := I.list (show SqL X.K H1 a (v0 :: l) from .inl (.inl (hx.st a _ hM hH).1))
  exact call_twin_plain F.plain_list_repr_under F.entry_list_repr_under F.check_list_repr_under ⟨o, ha, hc⟩ F.slot_list_repr.toG (F.args_list_repr_1 _)
    (listAtU (R := callEnd Q E) hM hH hna hT hg hcl hf hr hx ho I hQ hsz)
theorem ReprU.list {a : Addr} {v0 : V} {l : List V} {ts : List Str} (hM : M a = none) (hH : H a = some (.lst (v0 :: l))) (hna : a ∉ as) (hT : ReprUs X C M H j as d (v0 :: l) ts) : ReprU X C M H j (a :: as) (d + 1) (.ref a) (listText ts) := by
  intro u r base hb A g E pins σ s H1 Q hg hcl hf hr hx ho I hQ
  obtain rfl : u = Value.ref a := r
  obtain ⟨its, rv, ⟨o, n, ha, hc, _, hd⟩, _⟩ := I.list (show SqL X.K H1 a (v0 :: l) from .inl (.inl (hx.st a _ hM hH).1))
  refine wpAny_pyReprUnder_ref (by omega) ?_
  exact wpAny_pyReprObjUnder_twin (twin := "list.__repr__.under") ⟨o, ha, hc⟩ F.slot_list_repr.toG rfl (by have := hr.un; omega)
    (list_underU hM hH hna hT hg hcl hf hr hx ho I (fun H2 s' u e o' I' => ⟨⟨_, _, rfl⟩, _, _, rfl, hQ H2 s' e o' I'⟩) hb)
end
end Dl
namespace Dl
open PySem L2 Builtin Builtin.List
mutual
def okX : D → Bool
  | .non => true
  | .bl _ => true
  | .int i => decide (i.natAbs.log2 < 1920)
  | .str _ => true
  | .tup ds => okXL ds
  | .lst ds => okXL ds
  | .ln _ _ _ => true
  | _ => false
def okXL : List D → Bool
  | [] => true
  | d :: ds => okX d && okXL ds
end
mutual
def depX : D → Nat
  | .tup ds => depXL ds + 1
  | .lst ds => depXL ds + 1
  | _ => 0
def depXL : List D → Nat
  | [] => 0
  | d :: ds => max (depX d) (depXL ds)
end
mutual
def lnsX : D → List (Int × Int × Int)
  | .tup ds => lnsXL ds
  | .lst ds => lnsXL ds
  | .ln t p o => [(t, p, o)]
  | _ => []
def lnsXL : List D → List (Int × Int × Int)
  | [] => []
  | d :: ds => lnsX d ++ lnsXL ds
end
mutual
def shX (txt : Int × Int × Int → Str) : D → Str
  | .non => "None"
  | .bl b => if b then "True" else "False"
  | .int i => toString i
  | .str x => reprText x
  | .tup ds => tupleText (shXL txt ds)
  | .lst ds => listText (shXL txt ds)
  | .ln t p o => txt (t, p, o)
  | _ => ""
def shXL (txt : Int × Int × Int → Str) : List D → List Str
  | [] => []
  | d :: ds => shX txt d :: shXL txt ds
end
section
variable {G : Gx} {M : Mem} {H : Hp}
mutual
theorem dep_det : ∀ (d e : D) (v : V), okX d = true → okX e = true → Is G M H d v → Is G M H e v → depX d = depX e
  | .tup ds, e, v, hd, he, i, k => by
    unfold Is at i
    obtain ⟨a, xs, rfl, m, h, l⟩ := i
    cases e with
    | tup es =>
      unfold Is at k
      obtain ⟨a', xs', ea, _, h', l'⟩ := k
      cases ea
      rw [h] at h'
      cases h'
      unfold depX
      rw [depL_det ds es xs (by simpa only [okX] using hd) (by simpa only [okX] using he) l l']
    | lst es =>
      unfold Is at k
      obtain ⟨a', xs', ea, _, h', l'⟩ := k
      cases ea
      rw [h] at h'
      cases h'
    | ln t p o =>
      unfold Is at k
      obtain ⟨a', _, _, ea, _, h', _⟩ := k
      cases ea
      rw [h] at h'
      cases h'
    | non => unfold Is at k; cases k
    | bl _ => unfold Is at k; cases k
    | int _ => unfold Is at k; cases k
    | str _ => unfold Is at k; cases k
    | _ => cases he
  | .lst ds, e, v, hd, he, i, k => by
    unfold Is at i
    obtain ⟨a, xs, rfl, m, h, l⟩ := i
    cases e with
    | lst es =>
      unfold Is at k
      obtain ⟨a', xs', ea, _, h', l'⟩ := k
      cases ea
      rw [h] at h'
      cases h'
      unfold depX
      rw [depL_det ds es xs (by simpa only [okX] using hd) (by simpa only [okX] using he) l l']
    | tup es =>
      unfold Is at k
      obtain ⟨a', xs', ea, _, h', l'⟩ := k
      cases ea
      rw [h] at h'
      cases h'
    | ln t p o =>
      unfold Is at k
      obtain ⟨a', _, _, ea, _, h', _⟩ := k
      cases ea
      rw [h] at h'
      cases h'
    | non => unfold Is at k; cases k
    | bl _ => unfold Is at k; cases k
    | int _ => unfold Is at k; cases k
    | str _ => unfold Is at k; cases k
    | _ => cases he
  | .ln t p o, e, v, hd, he, i, k => by
    unfold Is at i
    obtain ⟨a, dx, q, rfl, m, h, _⟩ := i
    cases e with
    | tup es =>
      unfold Is at k
      obtain ⟨a', xs', ea, _, h', l'⟩ := k
      cases ea
      rw [h] at h'
      cases h'
    | lst es =>
      unfold Is at k
      obtain ⟨a', xs', ea, _, h', l'⟩ := k
      cases ea
      rw [h] at h'
      cases h'
    | _ => rfl
  | .non, e, v, hd, he, i, k => by
    unfold Is at i
    subst i
    cases e with
    | tup es => unfold Is at k; obtain ⟨_, _, ea, _⟩ := k; cases ea
    | lst es => unfold Is at k; obtain ⟨_, _, ea, _⟩ := k; cases ea
    | _ => rfl
  | .bl b, e, v, hd, he, i, k => by
    unfold Is at i
    subst i
    cases e with
    | tup es => unfold Is at k; obtain ⟨_, _, ea, _⟩ := k; cases ea
    | lst es => unfold Is at k; obtain ⟨_, _, ea, _⟩ := k; cases ea
    | _ => rfl
  | .int n, e, v, hd, he, i, k => by
    unfold Is at i
    subst i
    cases e with
    | tup es => unfold Is at k; obtain ⟨_, _, ea, _⟩ := k; cases ea
    | lst es => unfold Is at k; obtain ⟨_, _, ea, _⟩ := k; cases ea
    | _ => rfl
  | .str x, e, v, hd, he, i, k => by
    unfold Is at i
    subst i
    cases e with
    | tup es => unfold Is at k; obtain ⟨_, _, ea, _⟩ := k; cases ea
    | lst es => unfold Is at k; obtain ⟨_, _, ea, _⟩ := k; cases ea
    | _ => rfl
  | .own _, _, _, hd, _, _, _ => by cases hd
  | .scr _, _, _, hd, _, _, _ => by cases hd
  | .exn _ _, _, _, hd, _, _, _ => by cases hd
  | .exn0 _, _, _, hd, _, _, _ => by cases hd
  | .dct _ _, _, _, hd, _, _, _ => by cases hd
  | .cls, _, _, hd, _, _, _ => by cases hd
theorem depL_det : ∀ (ds es : List D) (vs : List V), okXL ds = true → okXL es = true → IsL G M H ds vs → IsL G M H es vs → depXL ds = depXL es
  | [], es, vs, _, _, i, k => by
    cases vs with
    | cons _ _ => unfold IsL at i; exact i.elim
    | nil =>
      cases es with
      | nil => rfl
      | cons _ _ => unfold IsL at k; exact k.elim
  | d :: ds, es, vs, hd, he, i, k => by
    cases vs with
    | nil => unfold IsL at i; exact i.elim
    | cons v vs =>
      cases es with
      | nil => unfold IsL at k; exact k.elim
      | cons e es =>
        unfold IsL at i k
        simp only [okXL, Bool.and_eq_true] at hd he
        unfold depXL
        rw [dep_det d e v hd.1 he.1 i.1 k.1, depL_det ds es vs hd.2 he.2 i.2 k.2]
end
def AtM (G : Gx) (M : Mem) (H : Hp) (n : Nat) (bs : List Addr) : Prop := ∀ b ∈ bs, ∃ e, okX e = true ∧ Is G M H e (.ref b) ∧ depX e ≤ n
theorem AtM.not {n : Nat} {bs : List Addr} {a : Addr} {d : D} (h : AtM G M H n bs) (hd : okX d = true) (i : Is G M H d (.ref a)) (lt : n < depX d) : a ∉ bs := fun hm => by
  obtain ⟨e, he, k, l⟩ := h a hm
  have := dep_det d e _ hd he i k
  omega
end
section
variable {X : Cx} {C : Addr} {M : Mem} {H : Hp} {j : Nat} {txt : Int × Int × Int → Str}
end
end Dl
namespace Dl
open PySem L2 Builtin Builtin.List
def conX : D → Bool
  | .tup _ => true
  | .lst (_ :: _) => true
  | .ln _ _ _ => true
  | _ => false
structure ShowX (S : DSp) (M : Mem) (d : D) (t : Str) : Prop where
  con : conX d = true
  ok : okX d = true
  dep : depX d ≤ 6
  len : t.length ≤ sizeLine
  ex : ∃ txt : Int × Int × Int → Str, t = shX txt d ∧ ∀ x ∈ lnsX d, S [.ln x.1 x.2.1 x.2.2] M (fun e M' => e = .str (txt x) ∧ M' = M) noX
def oReprX (S : DSp) : DC := fun ds M R => match ds with
  | [d] => (∃ p, ShowOk d p ∧ R (.str p.shown) M) ∨ ∃ t, ShowX S M d t ∧ R (.str t) M
  | _ => False
theorem e_oReprX (S : DSp) (d : D) (M : Mem) (R : DR) : oReprX S [d] M R = ((∃ p, ShowOk d p ∧ R (.str p.shown) M) ∨ ∃ t, ShowX S M d t ∧ R (.str t) M) := id rfl
section
variable {X : Cx} {C : Addr}
end
end Dl
namespace Dl
open PySem L2
section
variable {X : Cx} {C f : Addr} {j k n : Nat} {S : DSp} {Sx : DSx} {x : Str} {p pos : Pos} {kws : List Keyword} {ks : List Str} {fd : FuncData} {ps : List Str} {sp : Sp} {CX : CxE} {E : XK} {g : List Value → List Value → List Value} {gV : List V → List V → List V} {tk : TA} {pick : List D → List D → List D}
end
section
variable {α : Type} {a b c d e f g h : α}
theorem pk01 : pickL [0] [] [a] = [a] := id rfl
theorem pk02 : pickL [0, 1] [] [a, b] = [a, b] := id rfl
theorem pk03 : pickL [0, 1, 2] [] [a, b, c] = [a, b, c] := id rfl
theorem pk04 : pickL [0, 1, 2, 3] [] [a, b, c, d] = [a, b, c, d] := id rfl
theorem pk05 : pickL [0, 1, 2, 3, 4] [] [a, b, c, d, e] = [a, b, c, d, e] := id rfl
theorem pk06 : pickL [0, 1, 2, 3, 4, 5] [] [a, b, c, d, e, f] = [a, b, c, d, e, f] := id rfl
theorem pk07 : pickL [0, 1, 2, 3, 4, 5, 6] [] [a, b, c, d, e, f, g] = [a, b, c, d, e, f, g] := id rfl
theorem pk08 : pickL [0, 1, 2, 3, 4, 5, 6, 7] [] [a, b, c, d, e, f, g, h] = [a, b, c, d, e, f, g, h] := id rfl
end
end Dl
namespace Dl
open PySem L2
def oEqNT (f : Bool → Bool) : DO := fun d e M R => match d, e with
  | .tup ds, .tup [] => R (.bl (f ds.isEmpty)) M
  | _, _ => False
theorem f_eqNt {f : Bool → Bool} {ds : List D} {M : Mem} {R : DR} : oEqNT f (.tup ds) (.tup []) M R = R (.bl (f ds.isEmpty)) M := id rfl
section
variable {X : Cx} {C : Addr} {a : Expr} {pos : Pos} {va : DE}
end
theorem f_inW2 (f : Bool → Bool) (z a b : String) (M : Mem) (R : DR) : oInDG f (.str (Str.ofString z)) (.lst [.str (Str.ofString a), .str (Str.ofString b)]) M R = R (.bl (f (decide (a = z) || decide (b = z)))) M := by
  have e : oInDG f (.str (Str.ofString z)) (.lst [.str (Str.ofString a), .str (Str.ofString b)]) M R = ((PyData.strOk (Str.ofString a) && (PyData.strOk (Str.ofString b) && true)) = true ∧ PyData.strOk (Str.ofString z) = true ∧ (0 : Nat) = 0 ∧ R (.bl (f ([Str.ofString a, Str.ofString b].any fun x => x == Str.ofString z))) M) := propext Iff.rfl
  rw [e]
  simp [word_ok, word_beq]
theorem f_inW3 (f : Bool → Bool) (z a b c : String) (M : Mem) (R : DR) : oInDG f (.str (Str.ofString z)) (.lst [.str (Str.ofString a), .str (Str.ofString b), .str (Str.ofString c)]) M R = R (.bl (f (decide (a = z) || (decide (b = z) || decide (c = z))))) M := by
  have e : oInDG f (.str (Str.ofString z)) (.lst [.str (Str.ofString a), .str (Str.ofString b), .str (Str.ofString c)]) M R = ((PyData.strOk (Str.ofString a) && (PyData.strOk (Str.ofString b) && (PyData.strOk (Str.ofString c) && true))) = true ∧ PyData.strOk (Str.ofString z) = true ∧ (0 : Nat) = 0 ∧ R (.bl (f ([Str.ofString a, Str.ofString b, Str.ofString c].any fun x => x == Str.ofString z))) M) := propext Iff.rfl
  rw [e]
  simp [word_ok, word_beq]
end Dl
namespace Dl
open PySem L2
structure MOkOX (P : Program) (w : World) (K : PySem.W.Frag) (mg : Str → Option Value) (base : Heap) (C : Addr) (k : Nat) (c m : Str) (n : Nat) (S : DSp) (Sx : DSx) : Prop where
  ex : ∃ (f : Addr) (fd : FuncData) (ps : List Str), OCls K c ∧ Meth K (He.ga K c) m f ∧ m ∉ clsF c ∧ FnOk P w K mg base (CXp P w) k f fd ps (spU ⟨K, C⟩ n S Sx) ∧ Binds K fd ps []
def vObjOX (c : Str) (n : Nat) (S : DSp) (Sx : DSx) (o : DEX) (a : DAX) : DEX := fun γ M R Xd => o γ M (fun od M1 => match od with
  | .own x => (match M1 x with
    | some (.obj c' _) => c' = c ∧ a γ M1 (fun ds M2 => ds.length + 1 = n ∧ (S (.own x :: ds) M2 R noX ∨ Sx (.own x :: ds) M2 Xd)) Xd
    | _ => False)
  | _ => False) Xd
theorem e_vObjOX (c : Str) (n : Nat) (S : DSp) (Sx : DSx) (o : DEX) (a : DAX) (γ : Gm) (M : Mem) (R : DR) (Xd : DX) : vObjOX c n S Sx o a γ M R Xd = (o γ M (fun od M1 => match od with
  | .own x => (match M1 x with
    | some (.obj c' _) => c' = c ∧ a γ M1 (fun ds M2 => ds.length + 1 = n ∧ (S (.own x :: ds) M2 R noX ∨ Sx (.own x :: ds) M2 Xd)) Xd
    | _ => False)
  | _ => False) Xd) := id rfl
section
variable {X : Cx} {C : Addr} {j k n : Nat} {S : DSp} {Sx : DSx} {o e : Expr} {es : List Expr} {c m : Str} {pos apos : Pos}
end
def spVX (G : Gx) (nmax : Nat) (S : DSx) : Sp := fun vs H _ E => ∃ (d : D) (es : List D) (M : Mem) (Xd : DX), es.length ≤ nmax ∧ IsL G M H (d :: es) vs ∧ Own G M H ∧ S [d, .tup es] M Xd ∧
  ∀ xd M' cls d' H', Own G M' H' → XIs G M' H' xd cls d' → Ext M M' H H' → Xd xd M' → E cls d' H'
def spVU (G : Gx) (nmax : Nat) (S : DSp) (Sx : DSx) : Sp := fun vs H Q E => spV G nmax S vs H Q E ∨ spVX G nmax Sx vs H Q E
section
variable {P : Program} {w : World} {K : PySem.W.Frag} {mg : Str → Option Value} {base : Heap} {x qual : Str} {params : Arguments} {body : List Stmt} {scope : Scope} {kws : List (Str × V)} {f : Addr} {fd : FuncData}
end
structure MVOkX (P : Program) (w : World) (K : PySem.W.Frag) (mg : Str → Option Value) (base : Heap) (C : Addr) (k : Nat) (c m : Str) (nmax : Nat) (S : DSp) (Sx : DSx) : Prop where
  ex : ∃ (f : Addr), OCls K c ∧ Meth K (He.ga K c) m f ∧ m ∉ clsF c ∧ FnR P w K mg base (CXp P w) k f (spVU ⟨K, C⟩ nmax S Sx)
section
variable {X : Cx} {C : Addr} {j k nmax : Nat} {S : DSp} {Sx : DSx} {o e : Expr} {es : List Expr} {c m : Str} {pos apos : Pos} {sp : Sp} {f : Addr} {ta : TE} {t : TA}
end
end Dl
namespace Dl
open PySem L2
def oRepT : DO := fun d e M R => match d, e with
  | .tup ds, .int k => ds ≠ [] ∧ 2 ≤ k ∧ k ≤ 1000 ∧ ds.length ≤ 1000 ∧ R (.tup (List.replicate k.toNat ds).flatten) M
  | _, _ => False
theorem f_repT {M : Mem} {R : DR} {ds : List D} {k : Int} : oRepT (.tup ds) (.int k) M R = (ds ≠ [] ∧ 2 ≤ k ∧ k ≤ 1000 ∧ ds.length ≤ 1000 ∧ R (.tup (List.replicate k.toNat ds).flatten) M) := id rfl
section
variable {X : Cx} {C : Addr} {a b : Expr} {va vb : DE} {pos : Pos}
end
end Dl
namespace Dl
open PySem L2
def lkE (Ed : DEnds) (p : Addr) (o : Obj) (xs : List V) (ks : List Key) (ds : List D) : DEnds :=
  ⟨fun γ M => M p = some (.lck o xs ks ds) ∧ Ed.nx γ (mset M p (.dct ks ds)), fun d M => M p = some (.lck o xs ks ds) ∧ Ed.rt d (mset M p (.dct ks ds)),
   fun γ M => M p = some (.lck o xs ks ds) ∧ Ed.bk γ (mset M p (.dct ks ds)), fun γ M => M p = some (.lck o xs ks ds) ∧ Ed.ct γ (mset M p (.dct ks ds)), fun _ _ _ => False⟩
def vLk (v : DS) : DS := fun Ed γ M => ∃ p ks ds, M p = some (.dct ks ds) ∧ ∀ o xs, v (lkE Ed p o xs ks ds) γ (mset M p (.lck o xs ks ds))
theorem e_vLk (v : DS) (Ed : DEnds) (γ : Gm) (M : Mem) : vLk v Ed γ M = (∃ p ks ds, M p = some (.dct ks ds) ∧ ∀ o xs, v (lkE Ed p o xs ks ds) γ (mset M p (.lck o xs ks ds))) := id rfl
theorem own_unlk {G : Gx} {M : Mem} {H : Hp} {p : Addr} {o : Obj} {xs : List V} {ks : List Key} {ds : List D} (w : Own G M H) (h : M p = some (.lck o xs ks ds)) :
    H p = some (.frz o (.dK (ks.zip xs))) ∧ Own G (mset M p (.dct ks ds)) (upd H p (.dK (ks.zip xs))) ∧ Ext M (mset M p (.dct ks ds)) H (upd H p (.dK (ks.zip xs))) := by
  obtain ⟨pu, hl, h1, il⟩ := w p _ h
  have x : Ext M (mset M p (.dct ks ds)) H (upd H p (.dK (ks.zip xs))) := Ext.put (by rw [h]; rfl)
  exact ⟨h1, w.setM x ⟨pu, hl, xs, upd_same, IsL.ext x ds xs il⟩, x⟩
section
variable {X : Cx} {C : Addr} {st : Stmt} {v : DS}
theorem qs_lk (h : QS X C st v) : QS X C st (vLk v) := by
  obtain ⟨t, p, s⟩ := h.ex
  refine ⟨_, ps_lock p, fun Ed γ M σ H E r l h => ?_⟩
  obtain ⟨q, ks, ds, hq, h⟩ := h
  obtain ⟨pu, hl, xs, ha, il⟩ := r.ow q _ hq
  refine ⟨q, _, ha, trivial, fun o => ?_⟩
  have x : Ext M (mset M q (.lck o xs ks ds)) H (upd H q (.frz o (.dK (ks.zip xs)))) := Ext.put (by rw [hq]; rfl)
  have w : Own ⟨X.K, C⟩ (mset M q (.lck o xs ks ds)) (upd H q (.frz o (.dK (ks.zip xs)))) := r.ow.setM x ⟨pu, hl, upd_same, IsL.ext x ds xs il⟩
  refine s (lkE Ed q o xs ks ds) γ _ σ _ _ (r.mk' x w) ⟨fun γ' M' σ' H' r' e' h' => ?_, fun d M' v H' o' i' e' h' => ?_, fun γ' M' σ' H' r' e' h' => ?_, fun γ' M' σ' H' r' e' h' => ?_, fun γ' M' σ' H' xd cls d r' i' e' h' => h'.elim⟩ (h o xs)
  · obtain ⟨h1, w2, x2⟩ := own_unlk r'.ow h'.1
    exact ⟨h1, l.nx _ _ _ _ (r'.mk' x2 w2) ((x.trans e').trans x2) h'.2⟩
  · obtain ⟨h1, w2, x2⟩ := own_unlk o' h'.1
    exact ⟨h1, l.rt _ _ _ _ w2 (Is.ext x2 _ _ i') ((x.trans e').trans x2) h'.2⟩
  · obtain ⟨h1, w2, x2⟩ := own_unlk r'.ow h'.1
    exact ⟨h1, l.bk _ _ _ _ (r'.mk' x2 w2) ((x.trans e').trans x2) h'.2⟩
  · obtain ⟨h1, w2, x2⟩ := own_unlk r'.ow h'.1
    exact ⟨h1, l.ct _ _ _ _ (r'.mk' x2 w2) ((x.trans e').trans x2) h'.2⟩
end
def wLk (a : DE) : DI := fun γ M R => a γ M fun d M1 => match d with
  | .own p => ∃ o xs ks ds, M1 p = some (.lck o xs ks ds) ∧ R ⟨ks.map datK, fun M => M p = some (.lck o xs ks ds)⟩ M1
  | _ => False
section
variable {X : Cx} {C : Addr} {tg e : Expr} {ve : DE}
theorem itR_lk {G : Gx} {M1 : Mem} {H1 : Hp} {p : Addr} {o : Obj} {xs : List V} {ks : List Key} {ds : List D} (hl : ks.length = xs.length) : ItR G M1 H1 (Itk p o (ks.zip xs)) ⟨ks.map datK, fun M => M p = some (.lck o xs ks ds)⟩ := by
  intro M H xx w st i
  obtain ⟨_, _, h1, _⟩ := w p _ st
  have hz : (ks.zip xs).length = ks.length := by rw [List.length_zip, ← hl, Nat.min_self]
  refine ⟨fun d hd => ?_, fun hn => ?_⟩
  · rw [List.getElem?_map, Option.map_eq_some_iff] at hd
    obtain ⟨k, hk, rfl⟩ := hd
    have hi : i < ks.length := by
      rcases Nat.lt_or_ge i ks.length with h | h
      · exact h
      · rw [List.getElem?_eq_none h] at hk; cases hk
    refine ⟨⟨h1, by rw [hz]; exact hi⟩, fun y H' hy => ?_⟩
    obtain ⟨eH, k', v', hkv, ey⟩ := hy
    subst eH
    have e3 : (ks.zip xs).map (·.1) = ks := List.map_fst_zip (by rw [← hl]; omega)
    have e4 : ks[i]? = some k' := by
      rw [← e3, List.getElem?_map, hkv]; rfl
    rw [hk] at e4
    cases e4
    rw [ey]
    refine ⟨w, ?_, Ext.refl⟩
    cases k with
    | inl n => exact is_int
    | inr s => exact is_str
  · refine ⟨h1, ?_⟩
    rw [hz]
    have := hn
    rw [List.length_map] at this
    exact this
theorem qi_lk (he : QE X C e ve) : QI X C tg e (wLk ve) := by
  obtain ⟨t, p, s⟩ := he.ex
  refine ⟨_, pi_keys p, fun γ M R σ H Q r h k => s γ M _ σ H _ r h fun d M1 x H1 o1 i1 e1 h1 => ?_⟩
  cases d with
  | own a =>
    obtain ⟨o, xs, ks, ds, hm, h2⟩ := h1
    unfold Is at i1
    obtain ⟨_, hl, ha, il⟩ := o1 a _ hm
    exact ⟨a, o, i1.1, .inl ⟨_, ha, k _ _ M1 H1 o1 e1 (itR_lk (by rw [hl, il.len])) h2⟩⟩
  | _ => exact False.elim h1
end
end Dl
namespace Dl
open PySem L2
def oSortS : DC := fun ds M R => match ds with
  | [.lst xs] => (match strsOf xs with
    | some ss => ss.length < 64 ∧ ∀ ys : List Str, ys.Perm ss → PyProof.Rows.sortedS ys = true → R (.lst (ys.map D.str)) M
    | none => False)
  | _ => False
theorem strsOf_map : ∀ ss : List Str, strsOf (ss.map D.str) = some ss
  | [] => rfl
  | x :: r => by
    show (match strsOf (r.map D.str) with
      | some xs => some (x :: xs)
      | none => none) = _
    rw [strsOf_map r]
theorem f_sortS {M : Mem} {R : DR} {ss : List Str} : oSortS [.lst (ss.map D.str)] M R = (ss.length < 64 ∧ ∀ ys : List Str, ys.Perm ss → PyProof.Rows.sortedS ys = true → R (.lst (ys.map D.str)) M) := by
  unfold oSortS
  simp only [strsOf_map]
section
variable {X : Cx} {C : Addr}
end
end Dl
namespace Dl
open PySem L2
section
open PySem PySem.Calls PyProof.Rows PySem.W
end
section
open PySem PySem.Calls PyProof.Rows PySem.W
inductive BO (s : Shared) : Value → String → Prop
  | non : BO s .none "NoneType"
  | bl (b : Bool) : BO s (.bool b) "bool"
  | int (i : Int) (t : Tok) : BO s (.int i t) "int"
  | str (x : Str) (t : Tok) : BO s (.str x t) "str"
  | lst {a : Addr} {items : Array Value} {n : Nat} {dd : Option Addr} {sl : Array (Option Value)} (e : s.heap.get? a = some { cls := .type "list", dict := dd, data := .seq items n, slots := sl }) : BO s (.ref a) "list"
  | tup {a : Addr} {items : Array Value} {n : Nat} {dd : Option Addr} {sl : Array (Option Value)} (e : s.heap.get? a = some { cls := .type "tuple", dict := dd, data := .seq items n, slots := sl }) : BO s (.ref a) "tuple"
  | dct {a : Addr} (e : s.TypeIs (.ref a) "dict") : BO s (.ref a) "dict"
theorem BO.ty {s : Shared} {u : Value} {T : String} (h : BO s u T) : s.TypeIs u T := by
  cases h with
  | non => exact rfl
  | bl b => exact rfl
  | int i t => exact typeIs_int s i t
  | str x t => exact typeIs_str s x t
  | lst e => exact ⟨_, e, rfl⟩
  | tup e => exact ⟨_, e, rfl⟩
  | dct e => exact e
variable {prog : Program} {w : World} {A : Around} {E : Value → Shared → Prop} {s : Shared} {K : Frag} {x y C dx f : Addr} {ox oy : Obj} {od od' : Option Obj} {u : Value} {T : String}
end
section
open PySem PySem.Calls PyProof.Rows PySem.W
variable {prog : Program} {w : World} {A : Around} {E : Value → Shared → Prop} {s : Shared} {K : Frag} {x y C dx f : Addr} {ox oy : Obj} {od od' : Option Obj} {u : Value} {T : String}
end
inductive BV (H : Hp) : V → Ty → Prop
  | non : BV H .non .non
  | bl (b : Bool) : BV H (.bl b) .bl
  | int (i : Int) : BV H (.int i) .int
  | str (x : Str) : BV H (.str x) .str
  | tup {a : Addr} {xs : List V} (e : H a = some (.tup xs)) : BV H (.ref a) .tup
  | lst {a : Addr} {xs : List V} (e : H a = some (.lst xs)) : BV H (.ref a) .lst
  | dct {a : Addr} {kvs : List (Key × V)} (e : H a = some (.dK kvs)) : BV H (.ref a) .dct
section
variable {X : Cx} {pins : List (Addr × Obj)} {σ : St} {H : Hp} {s : Shared}
end
structure EqF (K : PySem.W.Frag) (C : Addr) : Prop where
  nf : NeF K C
  no : ∀ t : Ty, PySem.W.subIn K (.ref C) (.type t.nm) = some false
section
variable {X : Cx} {C : Addr} {j k : Nat} {S : DSp}
end
end Dl
namespace Dl
open PySem L2
section
variable {X : Cx} {C : Addr} {j k n : Nat} {S : DSp} {Sx : DSx} {o e fe : Expr} {es : List Expr} {m : Str} {pos apos : Pos} {f g p : Addr} {fd : FuncData} {ps : List Str} {sp : Sp} {ta tb : TE} {t : TA} {mc : Value}
structure CMOkX (P : Program) (w : World) (K : PySem.W.Frag) (mg : Str → Option Value) (base : Heap) (C : Addr) (k : Nat) (m : Str) (n : Nat) (S : DSp) (Sx : DSx) : Prop where
  ex : ∃ (mc : Value) (p g : Addr) (fd : FuncData) (ps : List Str), ClX.CRead K C mc ∧ ClX.CMet K C mc m p g ∧ FnOk P w K mg base (CXp P w) k g fd ps (spU ⟨K, C⟩ n S Sx) ∧ Binds K fd ps []
structure BinX (K : PySem.W.Frag) (C : Addr) (op : Operator) : Prop where
  b : BinF K C op
  all : ∀ t : Ty, (PySem.W.findIn K (.type t.nm) (PySem.dunder op.info.2)).isSome = true ∧ (PySem.W.findIn K (.type t.nm) (dunderR op.info.2)).isSome = true
end
section
open PySem PySem.Calls PyProof.Rows PySem.W
variable {prog : Program} {w : World} {A : Around} {E : Value → Shared → Prop} {s : Shared} {K : Frag} {x C f L : Addr} {ox : Obj} {od : Option Obj} {T : String} {h₀ : Heap} {m : Str → Option Value} {b : Value}
theorem BO.keeps {s' : Shared} {u : Value} (B : BO s u T) (k : ∀ b o, s.heap.get? b = some o → s'.heap.get? b = some o) : BO s' u T := by
  cases B with
  | non => exact .non
  | bl b => exact .bl b
  | int i t => exact .int i t
  | str x t => exact .str x t
  | lst e => exact .lst (k _ _ e)
  | tup e => exact .tup (k _ _ e)
  | dct e => obtain ⟨o, e, q⟩ := e; exact .dct ⟨o, k _ _ e, q⟩
end
section
variable {X : Cx} {C : Addr} {j k n : Nat} {S : DSp} {Sx : DSx} {o e fe : Expr} {es : List Expr} {m : Str} {pos apos : Pos} {f g p : Addr} {fd : FuncData} {ps : List Str} {sp : Sp} {ta tb : TE} {t : TA} {mc : Value}
structure UOkX (P : Program) (w : World) (K : PySem.W.Frag) (mg : Str → Option Value) (base : Heap) (C : Addr) (k : Nat) (m : Str) (n : Nat) (S : DSp) (Sx : DSx) : Prop where
  ex : ∃ (f : Addr) (fd : FuncData) (ps : List Str), PySem.W.findIn K (.ref C) m = some (some (.ref f)) ∧ PySem.W.isFn K (.ref f) = true ∧ FnOk P w K mg base (CXp P w) k f fd ps (spU ⟨K, C⟩ n S Sx) ∧ Binds K fd ps []
end
end Dl

namespace GQ
open PySem PySem.SeqAt
open AutoSeq1 (wpAny_loadPart')
open MeetsSeq MeetsSeq2 MeetsSeq3 SeqRoads2
section
variable {prog : Program} {w : World} {A : Around} {R : Result → Shared → Prop}
end
section
variable {prog : Program} {w : World} {A : Around} {E : Value → Shared → Prop} {s : Shared}
end
end GQ
namespace L2
open PySem PySem.Spec PyProof.Rows
section
variable {X : Cx} {n : Nat} {D : Eqv}
end
end L2
namespace Dl
open PySem L2
def mem0 : Mem := fun _ => none
theorem own0 {G : Gx} {H : Hp} : Own G mem0 H := fun a m e => by cases e
section
variable {X : Cx} {C : Addr} {j k : Nat} {S : DSp}
end
end Dl
namespace PySem
namespace HandSPX
open Builtin Builtin.ObjectAttr
section
variable {M : Model} {A : Around} {E : Value → Shared → Prop} {h : Heap} {g : Array GenState} {d : Drawn} {t : Nat} {os : OsState} {kw : List (Str × Value)}
variable {nm q : Str} {C N : Addr} {bs bm bmB : List Value} {hdct : Bool} {sn : List Str} {sub : List Value} {ab : Bool} {col : Option Bool} {dd : Option Addr} {k0 k1 k2 k3 k5 : Option Value} {B newId initId : String}
end
section
variable {prog : Program} {w : World} {A : Around} {E : Value → Shared → Prop} {R : Result → Shared → Prop} {h : Heap} {g : Array GenState} {d : Drawn} {t : Nat} {os : OsState} {kw : List (Str × Value)}
variable {nm q : Str} {C N : Addr} {bs bm bmB : List Value} {hdct : Bool} {sn : List Str} {sub : List Value} {ab : Bool} {col : Option Bool} {dd : Option Addr} {k0 k1 k2 k3 k5 : Option Value} {B newId initId : String}
end
end HandSPX
end PySem

namespace Dl
open PySem L2
open PySem.Spec PyProof.Rows
section
variable {X : Cx} {o e : Expr} {es : List Expr} {to te : TE} {ta : TA} {f : Str} {p p' p1 p2 pos : Pos}
end
end Dl

namespace Dl
open PySem L2
structure ExV (P : Program) (w : World) (K : PySem.W.Frag) (mg : Str → Option Value) (base : Heap) (k : Nat) (c : Str) : Prop where
  ex : ∃ (fI : Addr) (fd : FuncData) (ps : List Str), mg c = some (.ref (He.ga K c)) ∧ OexC K (He.ga K c) ∧ PySem.W.findIn K (.ref (He.ga K c)) "__init__" = some (some (.ref fI)) ∧ PySem.W.typeIn K (.ref fI) = some (.type "function") ∧
    FnOk P w K mg base CX0 k fI fd ps (spEx (He.ga K c) (fldN c)) ∧ Binds K fd ps [] ∧ Binds K fd ps [.none] ∧ (∀ (s : Shared) (u x : Value), K.In s.heap → BindsTo s fd ⟨[u], [(fldN c, x)]⟩ (ps.zip [u, x])) ∧ ps.length = 2 ∧ noFld c = false
structure TxV (d : DefE) : Prop where
  b0 : ∀ (T : Addr) (doc pm : Value) (an : Option Addr) (cdv ct : Value) (cc : Addr) (u v : Value), ∃ k, bindArgs (PySem.W.ksFn "__init__" d.qual d.params d.body d.scope (.ref T) .none doc pm an cdv ct cc) ⟨[u], []⟩ = seqItems? (.ref T) >>= k ∧ k (some [v].toArray) = pure ((["self", fldN d.cls] : List Str).zip [u, v])
  bk : ∀ (T : Addr) (doc pm : Value) (an : Option Addr) (cdv ct : Value) (cc : Addr) (u x v : Value), ∃ k, bindArgs (PySem.W.ksFn "__init__" d.qual d.params d.body d.scope (.ref T) .none doc pm an cdv ct cc) ⟨[u], [(fldN d.cls, x)]⟩ = seqItems? (.ref T) >>= k ∧ k (some [v].toArray) = pure ((["self", fldN d.cls] : List Str).zip [u, x])
section
variable {X : Cx} {C : Addr} {j k : Nat} {c : Str} {e : Expr} {va : DA} {p pos : Pos} {kws : List Keyword}
end
end Dl
namespace Dl
open PySem L2
section
variable {X : Cx} {pins : List (Addr × Obj)} {σ : St} {H : Hp} {s : Shared} {C : Addr} {M : Mem}
end
structure ShowS (d : D) (p : PyData) : Prop where
  is : toR d = some p
  sh : p.showable = true
  len : p.shown.length ≤ sizeLine
  dep : p.depth ≤ 60
section
variable {X : Cx} {C : Addr}
end
end Dl
namespace Dl
open PySem L2
section
open PySem.Spec PyProof.Rows
end
section
variable {X : Cx} {C : Addr} {tg e : Expr} {va : DA}
end
end Dl
namespace Dl
open PySem L2
section
variable {X : Cx} {C : Addr} {j k : Nat} {S : DSp}
theorem isL_3 {G : Gx} {M : Mem} {H : Hp} {a b c : D} {xs : List V} (h : IsL G M H [a, b, c] xs) : ∃ u v w, xs = [u, v, w] ∧ Is G M H a u ∧ Is G M H b v ∧ Is G M H c w := by
  match xs, h with
  | [u, v, w], h => 
    unfold IsL at h
    obtain ⟨h1, h⟩ := h
    unfold IsL at h
    obtain ⟨h2, h⟩ := h
    unfold IsL at h
    exact ⟨u, v, w, rfl, h1, h2, h.1⟩
end
end Dl
namespace Dl
open PySem L2
def dropKs (ks : List Key) (k : Key) : List Key := ks.filter fun x => decide (x ≠ k)
def dropDs {α : Type} : List Key → List α → Key → List α
  | x :: ks, d :: ds, k => if x = k then dropDs ks ds k else d :: dropDs ks ds k
  | _, _, _ => []
theorem dropKs_cons {x k : Key} {ks : List Key} : dropKs (x :: ks) k = if x = k then dropKs ks k else x :: dropKs ks k := by
  unfold dropKs
  rw [List.filter_cons]
  by_cases h : x = k
  · rw [if_pos h, if_neg (by simp [h])]
  · rw [if_neg h, if_pos (by simp [h])]
theorem dropK_zip : ∀ {ks : List Key} {xs : List V} {k : Key}, L2.dropK (ks.zip xs) k = (dropKs ks k).zip (dropDs ks xs k)
  | [], _, _ => rfl
  | x :: ks, [], k => by
    show ([] : List (Key × V)) = (dropKs (x :: ks) k).zip []
    simp
  | x :: ks, y :: xs, k => by
    have ih := dropK_zip (ks := ks) (xs := xs) (k := k)
    unfold L2.dropK at *
    rw [List.zip_cons_cons, List.filter_cons, dropKs_cons, ih]
    show _ = List.zip _ (if x = k then dropDs ks xs k else y :: dropDs ks xs k)
    by_cases h : x = k
    · rw [if_pos h, if_pos h, if_neg (by simp [h])]
    · rw [if_neg h, if_neg h, if_pos (by simp [h])]
      rfl
theorem dropDs_len {α : Type} : ∀ {ks : List Key} {ds : List α} {k : Key}, ks.length = ds.length → (dropKs ks k).length = (dropDs ks ds k).length
  | [], [], _, _ => rfl
  | [], _ :: _, _, h => by simp at h
  | _ :: _, [], _, h => by simp at h
  | x :: ks, y :: ds, k, h => by
    rw [dropKs_cons]
    show _ = (if x = k then dropDs ks ds k else y :: dropDs ks ds k).length
    have ih := dropDs_len (ks := ks) (ds := ds) (k := k) (by simpa using h)
    by_cases q : x = k
    · rw [if_pos q, if_pos q]; exact ih
    · rw [if_neg q, if_neg q, List.length_cons, List.length_cons, ih]
theorem isL_dropDs {G : Gx} {M : Mem} {H : Hp} {k : Key} : ∀ {ks : List Key} {ds : List D} {xs : List V}, IsL G M H ds xs → IsL G M H (dropDs ks ds k) (dropDs ks xs k)
  | [], _, _, _ => IsL.nil
  | _ :: _, [], [], _ => IsL.nil
  | _ :: _, [], _ :: _, h => by unfold IsL at h; exact h.elim
  | _ :: _, _ :: _, [], h => by unfold IsL at h; exact h.elim
  | x :: ks, d :: ds, y :: xs, h => by
    unfold IsL at h
    show IsL G M H (if x = k then dropDs ks ds k else d :: dropDs ks ds k) (if x = k then dropDs ks xs k else y :: dropDs ks xs k)
    by_cases q : x = k
    · rw [if_pos q, if_pos q]; exact isL_dropDs h.2
    · rw [if_neg q, if_neg q]; exact IsL.cons h.1 (isL_dropDs h.2)
theorem pureL_dropDs {k : Key} : ∀ {ks : List Key} {ds : List D}, pureL ds = true → pureL (dropDs ks ds k) = true
  | [], _, _ => by unfold dropDs pureL; rfl
  | _ :: _, [], _ => by unfold dropDs pureL; rfl
  | x :: ks, d :: ds, h => by
    unfold pureL at h
    rw [Bool.and_eq_true] at h
    show pureL (if x = k then dropDs ks ds k else d :: dropDs ks ds k) = true
    by_cases q : x = k
    · rw [if_pos q]; exact pureL_dropDs h.2
    · rw [if_neg q]
      show (pureD d && pureL (dropDs ks ds k)) = true
      rw [h.1, pureL_dropDs h.2]; rfl
section
variable {X : Cx} {C : Addr} {o i e : Expr} {vo vi ve : DE} {pos apos : Pos}
def vDPop (o i : DE) : DE := fun γ M R => o γ M fun od M1 => (∃ a, od = .own a ∧ ∃ ks ds, M1 a = some (.dct ks ds)) ∧ i γ M1 fun k M2 => match od, keyD k with
  | .own a, some x => (match M2 a with
    | some (.dct ks ds) => ∃ z, dVal ks ds x = some z ∧ R z (mset M2 a (.dct (dropKs ks x) (dropDs ks ds x)))
    | _ => False)
  | _, _ => False
theorem e_vDPop (o i : DE) (γ : Gm) (M : Mem) (R : DR) : vDPop o i γ M R = (o γ M fun od M1 => (∃ a, od = .own a ∧ ∃ ks ds, M1 a = some (.dct ks ds)) ∧ i γ M1 fun k M2 => match od, keyD k with
  | .own a, some x => (match M2 a with
    | some (.dct ks ds) => ∃ z, dVal ks ds x = some z ∧ R z (mset M2 a (.dct (dropKs ks x) (dropDs ks ds x)))
    | _ => False)
  | _, _ => False) := propext Iff.rfl
theorem q_dpop (ho : QE X C o vo) (hi : QE X C i vi) (m : M1 X o "pop" apos i pos := by exact ⟨rfl, rfl, rfl, rfl⟩) : QE X C (.Call (.Attribute o "pop" apos) [i] [] pos) (vDPop vo vi) := by
  obtain ⟨to, po, so⟩ := ho.ex
  obtain ⟨ti, pi, si⟩ := hi.ex
  refine ⟨_, pe_dpop1 po pi m, fun γ M R σ H Q r h kk => so γ M _ σ H _ r h fun od M1 x H1 o1 i1 e1 h1 => ?_⟩
  obtain ⟨⟨a, rfl, ks1, ds1, q1⟩, h1⟩ := h1
  have j1 := i1
  unfold Is at j1
  obtain ⟨pu1, hl1, us1, ha1, il1⟩ := o1 a _ q1
  rw [j1.1]
  refine ⟨a, rfl, .inl ⟨_, .inl ha1⟩, si γ M1 _ σ H1 _ (r.mk' e1 o1) h1 fun k M2 y H2 o2 i2 e2 h2 => ?_⟩
  split at h2
  · rename_i a' key eo q
    cases eo
    split at h2
    · rename_i ks ds qa
      obtain ⟨z, hz, hk⟩ := h2
      obtain ⟨pu, hl, us, ha, il⟩ := o2 a _ qa
      obtain ⟨v, hv, iv⟩ := (dVal_is (k := key) il).1 z hz
      have is2 : (M2 a).isSome = true := by rw [qa]; rfl
      have x4 : Ext M2 (mset M2 a (.dct (dropKs ks key) (dropDs ks ds key))) H2 (upd H2 a (.dK ((dropKs ks key).zip (dropDs ks us key)))) := Ext.put is2
      refine ⟨_, key, v, ha, keyD_ok i2 q, hv, ?_⟩
      rw [dropK_zip]
      exact kk z _ v _ (o2.setM x4 ⟨pureL_dropDs pu, dropDs_len hl, _, upd_same, IsL.ext x4 _ _ (isL_dropDs il)⟩) (Is.ext x4 _ _ iv) ((e1.trans e2).trans x4) hk
    · exact h2.elim
  · exact h2.elim
end
end Dl
namespace Dl
open PySem L2
structure UOkO (P : Program) (w : World) (K : PySem.W.Frag) (mg : Str → Option Value) (base : Heap) (C : Addr) (k : Nat) (c m : Str) (n : Nat) (S : DSp) : Prop where
  ex : ∃ (f : Addr) (fd : FuncData) (ps : List Str), PySem.W.findIn K (.ref (He.ga K c)) m = some (some (.ref f)) ∧ PySem.W.isFn K (.ref f) = true ∧ FnOk P w K mg base CX0 k f fd ps (spD ⟨K, C⟩ n S) ∧ Binds K fd ps []
def lenB : D → Bool
  | .int n => decide (0 ≤ n) && decide (n < 9223372036854775808)
  | _ => false
def oLenU (c : Str) (S : DSp) : DC := fun ds M R => match ds with
  | [.own x] => (match M x with
    | some (.obj c' _) => c' = c ∧ S [.own x] M (fun e M' => lenB e = true ∧ R e M') noX
    | _ => False)
  | _ => False
theorem e_oLenU (c : Str) (S : DSp) (x : Addr) (M : Mem) (R : DR) : oLenU c S [.own x] M R = (match M x with
    | some (.obj c' _) => c' = c ∧ S [.own x] M (fun e M' => lenB e = true ∧ R e M') noX
    | _ => False) := id rfl
def oInU (g : Bool → Bool) (c : Str) (S : DSp) : DO := fun d e M R => match e with
  | .own x => (match M x with
    | some (.obj c' _) => c' = c ∧ S [.own x, d] M (fun r M' => match r with
      | .bl b => R (.bl (g b)) M'
      | _ => False) noX
    | _ => False)
  | _ => False
theorem e_oInU (g : Bool → Bool) (c : Str) (S : DSp) (d : D) (x : Addr) (M : Mem) (R : DR) : oInU g c S d (.own x) M R = (match M x with
    | some (.obj c' _) => c' = c ∧ S [.own x, d] M (fun r M' => match r with
      | .bl b => R (.bl (g b)) M'
      | _ => False) noX
    | _ => False) := id rfl
section
variable {X : Cx} {C : Addr} {j k : Nat} {S : DSp} {c : Str}
theorem b_lenU (h : UOkO X.prog X.w X.K X.mg X.base C k c "__len__" 1 S) (hr : Room j X.A) (hkj : k + 1 ≤ j) : BQ X C (.builtin "len") (oLenU c S) := by
  obtain ⟨f, fd, ps, hm, hf, F, hb⟩ := h.ex
  refine ⟨fun xs H Q => ∃ a dx fs, xs = [V.ref a] ∧ H a = some (.ins (He.ga X.K c) dx fs) ∧ spD ⟨X.K, C⟩ 1 S [V.ref a] H (fun v H' => (∃ n : Int, v = .int n ∧ 0 ≤ n ∧ n < 9223372036854775808) ∧ Q v H') E0, fun pins s σ H xs us Q I r h => ?_, fun ds M R H xs Q o i1 h k => ?_⟩
  · obtain ⟨a, dx, fs, rfl, ea, hsp⟩ := h
    obtain ⟨u, rfl, t⟩ := vals1 r
    obtain rfl : u = Value.ref a := t
    obtain ⟨m, Fr⟩ := inv_fr I
    obtain ⟨ox, od, J⟩ := inst_at I ea
    have rm : Room k X.A.in1 := (hr.mono hkj).in1
    refine PySem.W.len_K Fr I.ok.mod.kin J hm hf ?_
    have b := hb s [.ref a] I.kIn (by have := F.len _ _ _ _ hsp; exact this)
    rw [List.append_nil] at b
    refine wpAny_call (codeAny_mono (F.run X.A.in1 X.stack s H ⟨[.ref a], []⟩ [.ref a] [V.ref a] _ E0 rm I.env0.in1 b (.cons rfl .nil) hsp) fun z s' hz => ?_)
    match z, hz with
    | .error u, hz => exact hz.elim
    | .ok (.ret u), hz =>
      obtain ⟨v, H', I', rv, ⟨n, ey, n0, n1⟩, q⟩ := I.after hz
      subst ey
      obtain ⟨tk, rfl⟩ := rv
      exact ⟨⟨n0, n1⟩, .int n, H', I'.tok _, ⟨_, rfl⟩, q⟩
    | .ok .next, hz => exact hz.elim
    | .ok .brk, hz => exact hz.elim
    | .ok .cont, hz => exact hz.elim
  · match ds, h with
    | [d], h =>
      obtain ⟨v, rfl, i⟩ := isL1 i1
      cases d with
      | own x =>
        rw [e_oLenU] at h
        split at h
        · rename_i c' fs q
          obtain ⟨rfl, hs⟩ := h
          obtain ⟨hl, dx, vs, ha, hv⟩ := own_obj o q
          have ix := i
          unfold Is at ix
          obtain rfl := ix.1
          refine ⟨x, dx, _, rfl, ha, [.own x], M, _, rfl, IsL.cons i IsL.nil, o, hs, fun d' M' y H' o' i' e' h' => ⟨?_, k d' M' y H' o' i' e' h'.2⟩⟩
          have hs := h'.1
          cases d' with
          | int n =>
            unfold Is at i'
            unfold lenB at hs
            rw [Bool.and_eq_true, decide_eq_true_eq, decide_eq_true_eq] at hs
            exact ⟨n, i', hs.1, hs.2⟩
          | _ => cases hs
        · exact h.elim
      | _ => exact False.elim h
    | [], h => exact False.elim h
    | a :: b :: r, h => exact False.elim (show False from by cases a <;> exact h)
def rInU (g : Bool → Bool) (Co : Addr) (sp : Sp) : R2 := fun x y H Q => ∃ a dx fs, y = .ref a ∧ H a = some (.ins Co dx fs) ∧ sp [y, x] H (fun v H' => ∃ b, v = .bl b ∧ Q (.bl (g b)) H') E0
theorem run_inU {f : Addr} {fd : FuncData} {ps : List Str} {sp : Sp} {pins : List (Addr × Obj)} {s : Shared} {σ : St} {H : Hp} {a : Addr} {x : V} {v : Value} {Q : VK} {g : Bool → Bool} (F : FnOk X.prog X.w X.K X.mg X.base CX0 k f fd ps sp) (hb : Binds X.K fd ps []) (hr : Room k X.A) (I : Inv X pins σ H s) (rx : RelV x v)
    (hsp : sp [V.ref a, x] H (fun v H' => ∃ b, v = .bl b ∧ Q (.bl (g b)) H') E0) : wpAny (model X.prog X.w) X.A (call (.ref f) [.ref a, v]) (fun r s' => wpAny (model X.prog X.w) X.A (truthy r) (fun b => EP X pins σ Q (.bool (g b))) X.xe s') X.xe s := by
  have b := hb s [.ref a, v] I.kIn (by have := F.len _ _ _ _ hsp; exact this)
  rw [List.append_nil] at b
  refine wpAny_call (codeAny_mono (F.run X.A X.stack s H ⟨[.ref a, v], []⟩ [.ref a, v] [V.ref a, x] _ E0 hr I.env0 b (.cons rfl (.cons rx .nil)) hsp) fun z s' hz => ?_)
  match z, hz with
  | .error u, hz => exact hz.elim
  | .ok (.ret u), hz =>
    obtain ⟨v, H', I', rv, ⟨b, ey, q⟩⟩ := I.after hz
    subst ey
    obtain rfl : u = .bool b := rv
    exact wpAny_truthy_bool ⟨.bl (g b), H', I', rfl, q⟩
  | .ok .next, hz => exact hz.elim
  | .ok .brk, hz => exact hz.elim
  | .ok .cont, hz => exact hz.elim
theorem sndO_inU {g : Bool → Bool} : SndO ⟨X.K, C⟩ (rInU g (He.ga X.K c) (spD ⟨X.K, C⟩ 2 S)) (oInU g c S) := fun d e M R H x y Q o i1 i2 h kk => by
  cases e with
  | own a =>
    rw [e_oInU] at h
    split at h
    · rename_i c' fs q
      obtain ⟨rfl, hs⟩ := h
      obtain ⟨hl, dx, vs, ha, hv⟩ := own_obj o q
      have ix := i2
      unfold Is at ix
      obtain rfl := ix.1
      refine ⟨a, dx, _, rfl, ha, [.own a, d], M, _, rfl, IsL.cons i2 (IsL.cons i1 IsL.nil), o, hs, fun d' M' y H' o' i' e' h' => ?_⟩
      cases d' with
      | bl b =>
        unfold Is at i'
        exact ⟨b, i', kk _ M' _ H' o' is_bl e' h'⟩
      | _ => exact False.elim h'
    · exact h.elim
  | _ => exact False.elim h
theorem c_inU (h : UOkO X.prog X.w X.K X.mg X.base C k c "__contains__" 2 S) (hr : Room j X.A) (hkj : k ≤ j) : CmpQ X C .In (oInU id c S) := by
  obtain ⟨f, fd, ps, hm, hf, F, hb⟩ := h.ex
  refine ⟨_, fun pins s σ H x y v u Q I rx ry h => ?_, sndO_inU⟩
  obtain ⟨a, dx, fs, rfl, ea, hsp⟩ := h
  obtain rfl : u = Value.ref a := ry
  obtain ⟨m, Fr⟩ := inv_fr I
  obtain ⟨ox, od, J⟩ := inst_at I ea
  exact PySem.W.in_K Fr I.ok.mod.kin J hm hf (run_inU (g := id) F hb (hr.mono hkj) I rx hsp)
theorem c_notInU (h : UOkO X.prog X.w X.K X.mg X.base C k c "__contains__" 2 S) (hr : Room j X.A) (hkj : k ≤ j) : CmpQ X C .NotIn (oInU Bool.not c S) := by
  obtain ⟨f, fd, ps, hm, hf, F, hb⟩ := h.ex
  refine ⟨_, fun pins s σ H x y v u Q I rx ry h => ?_, sndO_inU⟩
  obtain ⟨a, dx, fs, rfl, ea, hsp⟩ := h
  obtain rfl : u = Value.ref a := ry
  obtain ⟨m, Fr⟩ := inv_fr I
  obtain ⟨ox, od, J⟩ := inst_at I ea
  exact PySem.W.notIn_K Fr I.ok.mod.kin J hm hf (run_inU (g := Bool.not) F hb (hr.mono hkj) I rx hsp)
end
section
variable {X : Cx} {C : Addr} {j k n : Nat} {S : DSp} {Sx : DSx} {o : Expr} {c m : Str} {pos apos : Pos}
theorem q_methOX0 {vo : DEX} (h : MOkOX X.prog X.w X.K X.mg X.base C k c m n S Sx) (hr : Room j X.A) (hkj : k ≤ j) (ho : QEX X C o vo)
    (hpe : ∀ {C' f : Addr} {fd : FuncData} {ps : List Str} {sp : Sp} {to : TE}, PE X o to → Cls X.K C' → Meth X.K C' m f → FnOk X.prog X.w X.K X.mg X.base (CXp X.prog X.w) k f fd ps sp → Room k X.A → Binds X.K fd ps [] → PE X (.Call (.Attribute o m apos) [] [] pos) (tMethW X C' m sp to tNil) := by exact fun h1 h2 h3 h4 h5 h6 => pe_methW0 h1 h2 h3 h4 h5 h6) :
    QEX X C (.Call (.Attribute o m apos) [] [] pos) (vObjOX c n S Sx vo (aL vNil)) := by
  obtain ⟨f, fd, ps, T, hm, hp, F, hb⟩ := h.ex
  obtain ⟨to, po, so⟩ := ho.ex
  refine ⟨_, hpe po T.cls hm F (hr.mono hkj) hb, fun γ M R Xd σ H Q r h kk kx => so γ M _ Xd σ H _ r h (fun od M1 x H1 o1 i1 e1 h1 => ?_) kx⟩
  cases od with
  | own a =>
    simp only at h1
    split at h1
    · rename_i c' ds q
      obtain ⟨rfl, h1⟩ := h1
      obtain ⟨hl, dx, vs, hx, _⟩ := own_obj o1 q
      have i1' := i1
      unfold Is at i1'
      refine ⟨a, dx, _, i1'.1, hx, zip_none hp, ?_⟩
      exact spU_of (ds := [.own a]) (xs := [x]) h1.1 o1 (IsL.cons i1 IsL.nil) h1.2 (fun d3 M3 y H3 o3 i3 e3 h3 => kk d3 M3 y H3 o3 i3 (e1.trans e3) h3) (kx.ext e1)
    · exact h1.elim
  | _ => exact False.elim h1
end
end Dl
namespace Dl
open PySem L2
def oIxS : DO := fun d e M R => match d, e with
  | .str z, .int i => z.length ≤ 1000 ∧ ∃ c, atI z.cps.toList i = some c ∧ R (.str ⟨#[c]⟩) M
  | _, _ => False
theorem f_ixTx {z : Str} {i : Int} {M : Mem} {R : DR} : oIxS (.str z) (.int i) M R = (z.length ≤ 1000 ∧ ∃ c, atI z.cps.toList i = some c ∧ R (.str ⟨#[c]⟩) M) := id rfl
def oMulS : DO := fun d e M R => match d, e with
  | .str z, .int i => 0 ≤ i ∧ i ≤ 1000 ∧ z.length ≤ 1000 ∧ R (.str (Txt.mul z i)) M
  | _, _ => False
theorem f_mulS {z : Str} {i : Int} {M : Mem} {R : DR} : oMulS (.str z) (.int i) M R = (0 ≤ i ∧ i ≤ 1000 ∧ z.length ≤ 1000 ∧ R (.str (Txt.mul z i)) M) := id rfl
theorem mulOk_sm {z : Str} {i : Int} (h0 : 0 ≤ i) (h1 : i ≤ 1000) (h2 : z.length ≤ 1000) : MulOk z i := by
  refine ⟨?_, fun a b => ?_, fun a b => ?_⟩
  · rw [Bool.or_eq_false_iff, decide_eq_false_iff_not, decide_eq_false_iff_not]
    omega
  · have : (1000 : Int) ≤ (2 ^ 63 - 1) / i := (Int.le_ediv_iff_mul_le (by omega)).mpr (by omega)
    omega
  · have l : z.length * i.toNat ≤ 1000 * 1000 := Nat.mul_le_mul h2 (by omega)
    unfold Builtin.Str.tooLong
    rw [decide_eq_false_iff_not]
    have := sizeLine_eq
    omega
def rMulS : R2 := fun x y H Q => ∃ z i, x = .str z ∧ y = .int i ∧ MulOk z i ∧ Q (.str (Txt.mul z i)) H
section
variable {X : Cx} {C : Addr} {a b : Expr} {va vb : DE} {pos : Pos}
theorem op_mulS : OpR X (binaryOp .Mult) rMulS := by
  intro pins s σ H x y v u Q I rx ry h
  obtain ⟨z, i, rfl, rfl, ok, q⟩ := h
  obtain ⟨t, rfl⟩ := rx
  obtain ⟨t', rfl⟩ := ry
  exact SB.mul ok fun t2 k => ⟨.str _, H, I.tok _, ⟨_, rfl⟩, q⟩
theorem sndO_mulS {G : Gx} : SndO G rMulS oMulS := fun d e M R H x y Q o i1 i2 h k => by
  unfold oMulS at h
  split at h
  · unfold Is at i1 i2
    exact ⟨_, _, i1, i2, mulOk_sm h.1 h.2.1 h.2.2.1, k _ M _ H o is_str Ext.refl h.2.2.2⟩
  · exact h.elim
theorem q_mulS (ha : QE X C a va) (hb : QE X C b vb) : QE X C (.BinOp a .Mult b pos) (vOp oMulS va vb) := qe_op op_mulS sndO_mulS ha hb
theorem sndO_ixS {G : Gx} : SndO G (rIx G.K) oIxS := fun d e M R H x y Q o i1 i2 h k => by
  unfold oIxS at h
  split at h
  · unfold Is at i1 i2
    obtain ⟨h0, c, hc, hr⟩ := h
    exact .inr (.inr ⟨_, _, c, i1, i2, Nat.le_trans h0 (by decide), hc, k _ M _ H o is_str Ext.refl hr⟩)
  · exact h.elim
theorem q_ixS (ha : QE X C a va) (hb : QE X C b vb) (hs : PlainIx b := by exact fun _ _ => rfl) : QE X C (.Subscript a b pos) (vOp oIxS va vb) := by
  obtain ⟨ta, pa, sa⟩ := ha.ex
  obtain ⟨tb, pb, sb⟩ := hb.ex
  exact ⟨_, pe_ix ix_seq pa pb hs, snd_op sa sb sndO_ixS⟩
end
end Dl
namespace Dl
open PySem L2
section
variable {X : Cx} {C : Addr}
end
end Dl
namespace Dl
open PySem L2
section
variable {X : Cx} {C : Addr} {j k : Nat} {S : DSp}
end
end Dl
namespace GQ
open PySem PySem.SeqAt
open AutoSeq1 (wpAny_loadPart')
open MeetsSeq MeetsSeq2 MeetsSeq3 SeqRoads2
section
variable {prog : Program} {w : World} {A : Around} {R : Result → Shared → Prop}
end
section
variable {prog : Program} {w : World} {A : Around} {E : Value → Shared → Prop} {s : Shared}
end
end GQ
namespace L2
open PySem PySem.Spec PyProof.Rows
section
variable {X : Cx} {n : Nat} {D : Eqv}
end
end L2
namespace Dl
open PySem L2
section
variable {X : Cx} {C : Addr} {j k : Nat} {S : DSp}
end
end Dl
namespace Dl
open PySem L2
def poD (d : D) : Bool := pureD d || (match d with | .own _ => true | _ => false)
theorem fis_of {G : Gx} {M : Mem} {H : Hp} {d : D} {v : V} (h : Is G M H d v) (p : poD d = true) : FIs G M H d v := by
  cases d with
  | own b => unfold Is at h; exact h.1
  | _ => exact ⟨by simpa [poD] using p, h⟩
theorem fisL_of {G : Gx} {M : Mem} {H : Hp} : ∀ {ds : List D} {vs : List V}, IsL G M H ds vs → ds.all poD = true → FIsL G M H ds vs
  | [], [], _, _ => trivial
  | [], _ :: _, h, _ => by unfold IsL at h; exact h.elim
  | _ :: _, [], h, _ => by unfold IsL at h; exact h.elim
  | d :: ds, v :: vs, h, p => by
    unfold IsL at h
    rw [List.all_cons, Bool.and_eq_true] at p
    exact ⟨fis_of h.1 p.1, fisL_of h.2 p.2⟩
theorem fisL_append {G : Gx} {M : Mem} {H : Hp} : ∀ {ds es : List D} {vs us : List V}, FIsL G M H ds vs → FIsL G M H es us → FIsL G M H (ds ++ es) (vs ++ us)
  | [], _, [], _, _, h => h
  | [], _, _ :: _, _, h, _ => h.elim
  | _ :: _, _, [], _, h, _ => h.elim
  | _ :: ds, _, _ :: vs, _, h, g => ⟨h.1, fisL_append h.2 g⟩
def okO (M : Mem) (d : D) : Prop := pureD d = true ∨ ∃ b, d = .own b ∧ (M b).isSome = true
theorem is_of_fis {G : Gx} {M : Mem} {H : Hp} {d : D} {v : V} (h : FIs G M H d v) (k : okO M d) : Is G M H d v := by
  cases d with
  | own b =>
    rcases k with k | ⟨c, e, k⟩
    · cases k
    · cases e
      unfold Is
      exact ⟨h, k⟩
  | _ => exact h.2
section
variable {X : Cx} {C : Addr} {a b e o : Expr} {va vb ve vo : DE} {pos apos : Pos}
def vLstOO (a : DA) : DE := fun γ M R => a γ M fun ds M1 => ds.length ≤ sizeLine ∧ ds.all poD = true ∧ ∀ p, M1 p = none → R (.own p) (mset M1 p (.lso ds))
theorem e_vLstOO (a : DA) (γ : Gm) (M : Mem) (R : DR) : vLstOO a γ M R = (a γ M fun ds M1 => ds.length ≤ sizeLine ∧ ds.all poD = true ∧ ∀ p, M1 p = none → R (.own p) (mset M1 p (.lso ds))) := id rfl
theorem q_lstOO {es : List Expr} {vr : DA} (hr : QA X C es vr) : QE X C (.List es pos) (vLstOO vr) := by
  obtain ⟨tr, pr, sr⟩ := hr.ex
  refine ⟨_, pe_lst pr, fun γ M R σ H Q re h k => sr γ M _ σ H _ re h fun ds M1 xs H1 o1 i1 e1 h1 => ⟨by rw [← i1.len]; exact h1.1, fun p hp => ?_⟩⟩
  have x : Dl.Ext M1 (mset M1 p (.lso ds)) H1 (upd H1 p (.lst xs)) := Ext.newOwn hp
  have w : Own ⟨X.K, C⟩ (mset M1 p (.lso ds)) (upd H1 p (.lst xs)) := o1.setM x ⟨xs, upd_same, FIsL.ext x ds xs (fisL_of i1 h1.2.1)⟩
  exact k _ (mset M1 p (.lso ds)) _ _ w is_own (e1.trans x) (h1.2.2 p (o1.fresh hp))
def vAppendO (o e : DE) : DE := fun γ M R => o γ M fun od M1 => ∃ a es, od = .own a ∧ M1 a = some (.lso es) ∧ e γ M1 fun d M2 => ∃ ds, M2 a = some (.lso ds) ∧ poD d = true ∧ ds.length < sizeLine ∧ R .non (mset M2 a (.lso (ds ++ [d])))
theorem e_vAppendO (o e : DE) (γ : Gm) (M : Mem) (R : DR) : vAppendO o e γ M R = (o γ M fun od M1 => ∃ a es, od = .own a ∧ M1 a = some (.lso es) ∧ e γ M1 fun d M2 => ∃ ds, M2 a = some (.lso ds) ∧ poD d = true ∧ ds.length < sizeLine ∧ R .non (mset M2 a (.lso (ds ++ [d])))) := id rfl
theorem q_appendO (ho : QE X C o vo) (he : QE X C e ve) (hpe : ∀ {to te : TE}, PE X o to → PE X e te → PE X (.Call (.Attribute o "append" apos) [e] [] pos) (tBM X.K "list" rAppend to (tCons te tNil)) := by exact fun h1 h2 => pe_bm PySem.F.plainAttrs_list PySem.F.slot_list_append PySem.F.type_list_append mt_append h1 (pa_cons h2 pa_nil)) : QE X C (.Call (.Attribute o "append" apos) [e] [] pos) (vAppendO vo ve) := by
  obtain ⟨to, po, so⟩ := ho.ex
  obtain ⟨te, pe, se⟩ := he.ex
  refine ⟨_, hpe po pe, fun γ M R σ H Q r h k => so γ M _ σ H _ r h fun od M1 x H1 o1 i1 e1 h1 => ?_⟩
  obtain ⟨a, es, rfl, hq, h1⟩ := h1
  have j1 := i1
  unfold Is at j1
  obtain ⟨xs, ha, hl⟩ := o1 a _ hq
  rw [j1.1]
  refine ⟨.inl ⟨rfl, xs, SqL.of ha⟩, se γ M1 _ σ H1 _ (r.mk' e1 o1) h1 fun d M2 y H2 o2 i2 e2 h2 => ?_⟩
  obtain ⟨ds, q2, po2, len, hR⟩ := h2
  obtain ⟨xs2, ha2, hl2⟩ := o2 a _ q2
  have im : (M2 a).isSome = true := by rw [q2]; rfl
  refine ⟨a, xs2, y, rfl, rfl, ha2, by rw [← fisL_len hl2]; exact len, ?_⟩
  have x3 : Dl.Ext M2 (mset M2 a (.lso (ds ++ [d]))) H2 (upd H2 a (.lst (xs2 ++ [y]))) := Ext.put im
  have w3 : Own ⟨X.K, C⟩ (mset M2 a (.lso (ds ++ [d]))) (upd H2 a (.lst (xs2 ++ [y]))) := o2.setM x3 ⟨_, upd_same, FIsL.ext x3 _ _ (fisL_append hl2 ⟨fis_of i2 po2, trivial⟩)⟩
  exact k .non _ .non _ w3 is_non ((e1.trans e2).trans x3) hR
def oIxO : DO := fun d e M R => ∃ a ds i x, d = .own a ∧ M a = some (.lso ds) ∧ e = .int i ∧ atI ds i = some x ∧ okO M x ∧ R x M
theorem e_oIxO (d e : D) (M : Mem) (R : DR) : oIxO d e M R = (∃ a ds i x, d = .own a ∧ M a = some (.lso ds) ∧ e = .int i ∧ atI ds i = some x ∧ okO M x ∧ R x M) := id rfl
theorem atI_of_fisL {G : Gx} {M : Mem} {H : Hp} {ds : List D} {xs : List V} {i : Int} {d : D} (l : FIsL G M H ds xs) (h : atI ds i = some d) : ∃ v, atI xs i = some v ∧ FIs G M H d v := by
  unfold atI at h ⊢
  rw [← fisL_len l]
  cases e : ixN ds.length i with
  | none => rw [e] at h; cases h
  | some j =>
    rw [e] at h
    exact fisL_get l (by rw [nthD_eq]; exact h)
theorem sndO_ixO {G : Gx} : SndO G (rIx G.K) oIxO := fun d e M R H x y Q o i1 i2 h k => by
  obtain ⟨a, ds, i, z, rfl, hm, rfl, hz, hk, hr⟩ := h
  unfold Is at i1 i2
  obtain ⟨xs, ha, hl⟩ := o a _ hm
  obtain ⟨v, hv, iv⟩ := atI_of_fisL hl hz
  exact .inl ⟨a, xs, i, v, i1.1, i2, SqL.of ha, hv, k _ M _ H o (is_of_fis iv hk) Ext.refl hr⟩
theorem q_ixO (ha : QE X C a va) (hb : QE X C b vb) (hs : PlainIx b := by exact fun _ _ => rfl) : QE X C (.Subscript a b pos) (vOp oIxO va vb) := by
  obtain ⟨ta, pa, sa⟩ := ha.ex
  obtain ⟨tb, pb, sb⟩ := hb.ex
  exact ⟨_, pe_ix ix_seq pa pb hs, snd_op sa sb sndO_ixO⟩
end
def vTryF (x : Str) (j : Nat) (b : DS) : DS := fun Ed γ M => b { Ed with xx := fun γ' xd M' => xd.cls = x ∧ Ed.nx (gset γ' j (some (.bl true))) M' } γ M
theorem e_vTryF (x : Str) (j : Nat) (b : DS) (Ed : DEnds) (γ : Gm) (M : Mem) : vTryF x j b Ed γ M = b { Ed with xx := fun γ' xd M' => xd.cls = x ∧ Ed.nx (gset γ' j (some (.bl true))) M' } γ M := id rfl
section
variable {X : Cx} {C : Addr} {x y : Str} {j : Nat} {body : List Stmt} {kc : Nat} {np pn1 pn2 pa pos pos' : Pos} {vb : DS}
theorem qs_tryF (hk : ExK0 X.K X.mg x) (hN : X.N.Nodup) (hb : ∀ (pn : List (Addr × Obj)) (xe : Value → Shared → Prop), PassesOwn (model X.prog X.w) X.A X.env xe → QSs (X.tr pn xe) C body vb) (hj : X.N[j]? = some y := by rfl) (hlj : X.env.kindOf y = some .local := by rfl) (hg : Gl X x := by rfl)
    (hs : X.stack = X.env :: X.outer := by rfl) (hf : X.env.frame = some X.env.locals := by rfl) (hex : X.ex = [] := by rfl) (hdb : (x == ("__debug__" : Str)) = false := by decide)
    (hsw : ∀ (a : Addr) (pn : List (Addr × Obj)), swapsWith (.Constant (.bool true) kc pn1) (some (.Name y pn2)) pa.line (X.suite a pn).env = pure false := by intro _ _; rfl) :
    QS X C (.Try body [.ExceptHandler (some (.Name x np)) none [.Assign [.Name y pn2] (.Constant (.bool true) kc pn1) pa] pos'] [] [] pos) (vTryF x j vb) := by
  refine ⟨liftS X C (vTryF x j vb), ⟨fun pins s σ H E I h => ?_⟩, fun Ed γ M σ H E r l h => ⟨Ed, γ, M, r, l, h⟩⟩
  obtain ⟨Ed, γ, M, r, l, h⟩ := h
  have ok := I.ok
  have hfr : X.A.frames = some (X.env :: X.outer) := by rw [ok.frames, hs]
  refine wpAny_Try_except ?_
  obtain ⟨xe, hxe⟩ : ∃ xe : Value → Shared → Prop, xe = fun e s₁ => wpAny (model X.prog X.w) X.A (noteFrame e X.env) (fun _ s₂ => wpAny (model X.prog X.w) X.A (setFlight e none) (fun _ s₃ => wpAny (model X.prog X.w) X.A (handleBy e X.env [.ExceptHandler (some (.Name x np)) none [.Assign [.Name y pn2] (.Constant (.bool true) kc pn1) pa] pos']) (SP X pins E) X.xe s₃) X.xe s₂) X.xe s₁ := ⟨_, rfl⟩
  have hpo : PassesOwn (model X.prog X.w) X.A X.env xe := by rw [hxe]; exact PassesOwn.looking
  obtain ⟨tb, pb, sb⟩ := (hb (X.pn ++ pins) xe hpo).ex
  have lk : Lk (X.tr (X.pn ++ pins) xe) C M H { Ed with xx := fun γ' xd M' => xd.cls = x ∧ Ed.nx (gset γ' j (some (.bl true))) M' } E := by
    refine ⟨l.nx, l.rt, l.bk, l.ct, ?_⟩
    intro γ' M' σ' H' xd cls d r' xi ex hnx u s' a B sI pins' eu I' nb up sky na os ag
    have J : Inv X pins σ' H' sI := I'.ofTry ok
    have ecls : cls = .ref (He.ga X.K xd.cls) := xi.1
    have sky' : Sky B (X.env :: X.outer) a (Zc cls d) X.env.locals s'.heap := by rw [← hs]; exact sky
    subst eu
    show xe (.ref a) s'
    rw [hxe]
    show wpAny _ X.A (noteFrame (.ref a) X.env) _ _ _
    refine Sky.land Zc.steady hfr hf sky' fun h3 fl3 up3 => ?_
    have J3 : Inv X pins σ' H' { s' with heap := h3 } := J.landed nb fl3.1 (up.trans up3) os ag
    obtain ⟨oe3, vs3, he3, hz3, hd3⟩ := fl3.there
    have nfr : a ∉ frs (X.env :: X.outer) := fun hm2 => by
      obtain ⟨_, o2, e2, hnf⟩ := fl3.2.2.1.mem hm2
      rw [he3] at e2; cases e2
      exact hnf _ hd3
    have nL : a ≠ X.env.locals := fun z => nfr (List.mem_filterMap.mpr ⟨X.env, List.mem_cons_self, by rw [hf, z]⟩)
    have nF : a ∉ X.fs := fun hm2 => by
      obtain ⟨v, hv, q⟩ := List.mem_filterMap.mp hm2
      exact nfr (List.mem_filterMap.mpr ⟨v, List.mem_cons_of_mem _ hv, q⟩)
    have nB : B.get? a = none := fl3.2.1
    have nI : sI.heap.get? a = none := by
      cases q : sI.heap.get? a with
      | none => rfl
      | some o =>
        have z := nb a o q (by rw [hs]; exact nfr)
        rw [nB] at z; cases z
    have n0 : X.s_0.heap.get? a = none := by
      cases q : X.s_0.heap.get? a with
      | none => rfl
      | some o =>
        obtain ⟨o2, z⟩ := J.base.there a o q (by rw [hex]; exact fun z => nomatch z)
        rw [nI] at z; cases z
    have npn : ∀ p ∈ X.pn ++ pins, p.1 ≠ a := fun p hp z => by
      obtain ⟨q, _⟩ := J.pin p hp
      rw [z, nI] at q; cases q
    have S3 := J3.suite he3 hd3 na nL nF
    refine wpAny_handleBy_cons (codeAny_handlers_test ?_) (by intro q; cases q)
    have LT : PySem.W.Looks (model X.prog X.w) h3 (typeOf (.ref a)) cls := fun A Q E2 s2 k q => wpAny_typeOf_ref (k _ _ he3) (by rw [hz3.1]; exact q)
    obtain ⟨hxc, hnx⟩ := hnx
    have hm := hk.ex.1
    rw [hxc] at ecls
    have LM := PySem.W.exm_one (M := model X.prog X.w) (J3.kIn) LT (by rw [ecls]; exact hk.me)
    refine ld_glob (X := X.suite a ((a, oe3) :: (X.pn ++ pins))) S3 hg hm (LM.here ?_) hdb
    refine codeAny_handlers_suite ?_
    refine HandSPX.lands_againZ fl3 fun h4 fl4 up4 => ?_
    have J4 : Inv X pins σ' H' { s' with heap := h4 } := J.landed nb fl4.1 ((up.trans up3).trans up4) os ag
    obtain ⟨oe4, vs4, he4, hz4, hd4⟩ := fl4.there
    have S4 := J4.suite he4 hd4 na nL nF
    refine wpAny_mono ((pss_one (ps_set (X := X.suite a ((a, oe4) :: (X.pn ++ pins))) (pos := pa) hN hj (.inl hlj) pe_bl (hsw a _) (.inr hlj))).run [] { s' with heap := h4 } σ' H'
      { nx := fun σ2 H2 => σ2 = σ'.set j (some (.bl true)) ∧ H2 = H', rt := fun _ _ => False } S4 ⟨rfl, rfl⟩) (fun f s6 hsp => ?_) (fun _ _ z => False.elim z)
    cases f with
    | next =>
      obtain ⟨σ6, H6, S6, e1, e2⟩ := hsp
      rw [e1, e2] at S6
      have J7 := inv_unsuite S6 ok
      have Z4 : Zc (.ref (He.ga X.K x)) d oe4 := by rw [← ecls]; exact hz4
      have J8 := inv_adopt J7 n0 npn Z4 hd4
      have xnew : Dl.Ext M' M' H' (upd H' a (exH (He.ga X.K x) d a)) := Ext.new na
      refine ⟨_, _, J8, l.nx _ M' _ _ ⟨?_, r'.ow.new na⟩ (ex.trans xnew) hnx⟩
      exact SlR.set (r'.sl.ext xnew) is_bl
    | ret u => obtain ⟨_, _, _, _, _, z⟩ := hsp; exact z.elim
    | brk => obtain ⟨_, _, _, z⟩ := hsp; exact z.elim
    | cont => obtain ⟨_, _, _, z⟩ := hsp; exact z.elim
  refine wpAny_mono (pb.run [] s σ H E (I.toTry _) (sb _ γ M σ H E r lk h)) (fun f s1 hsp => ?_) (fun e s1 he => by
    have he2 : xe e s1 := he
    rw [hxe] at he2
    exact he2)
  cases f with
  | next =>
    obtain ⟨σ1, H1, I1, q⟩ := hsp
    exact wpAny_execs_nil ⟨σ1, H1, I1.ofTry ok, q⟩
  | ret u =>
    obtain ⟨v, σ1, H1, I1, ru, q⟩ := hsp
    exact ⟨v, σ1, H1, I1.ofTry ok, ru, q⟩
  | brk =>
    obtain ⟨σ1, H1, I1, q⟩ := hsp
    exact ⟨σ1, H1, I1.ofTry ok, q⟩
  | cont =>
    obtain ⟨σ1, H1, I1, q⟩ := hsp
    exact ⟨σ1, H1, I1.ofTry ok, q⟩
end
def dnD (lo : Int) (n : Nat) : List D := (List.range n).map fun (i : Nat) => D.int (lo - (i : Int))
theorem dnD_get (lo : Int) (n i : Nat) (d : D) : (dnD lo n)[i]? = some d ↔ i < n ∧ d = .int (lo - i) := by
  unfold dnD
  rw [List.getElem?_map]
  by_cases h : i < n
  · rw [List.getElem?_range h]
    simp [h, eq_comm]
  · have e : (List.range n)[i]? = none := by simp; omega
    rw [e]; simp [h]
theorem dnD_len (lo : Int) (n : Nat) : (dnD lo n).length = n := by simp [dnD]
theorem itR_dn {G : Gx} {M1 : Mem} {H1 : Hp} {lo : Int} {n : Nat} : ItR G M1 H1 (Itc lo (-1) n) ⟨dnD lo n, fun _ => True⟩ := by
  intro M H x o st i
  refine ⟨fun d hd => ?_, fun hn => by rw [dnD_len] at hn; exact hn⟩
  obtain ⟨hi, ed⟩ := (dnD_get lo n i d).mp hd
  refine ⟨hi, fun y H' hy => ?_⟩
  obtain ⟨eH, ey⟩ := hy
  subst eH
  rw [ed, ey, show lo + (i : Int) * -1 = lo - i by omega]
  exact ⟨o, is_int, Ext.refl⟩
def wRng3 (a : DA) : DI := fun γ M R => a γ M fun ds M1 => ∃ i j : Int, ds = [.int i, .int j, .int (-1)] ∧ -(2 ^ 62) ≤ i ∧ i < 2 ^ 62 ∧ -(2 ^ 62) ≤ j ∧ j < 2 ^ 62 ∧ R ⟨dnD i (i - j).toNat, fun _ => True⟩ M1
section
variable {X : Cx} {C : Addr} {tg a b c : Expr} {va : DA} {p pos : Pos}
theorem qi_rng3 (hm : X.mg "range" = none) (ha : QA X C [a, b, c] va) (hg : Gl X "range" := by rfl) (hs : starEach [a, b, c] X.env = (false, eval a X.env) :: starEach [b, c] X.env := by rfl) (hpl : (backTo pos (starEach [b, c] X.env)).any (·.1) = false := by rfl) : QI X C tg (.Call (.Name "range" p) [a, b, c] [] pos) (wRng3 va) := by
  obtain ⟨t, pq, s⟩ := ha.ex
  refine ⟨_, pi_range3 hg hm pq hs hpl, fun γ M R σ H Q r h k => s γ M _ σ H _ r h fun ds M1 xs H1 o1 i1 e1 h1 => ?_⟩
  obtain ⟨i, j, rfl, a1, a2, b1, b2, h1⟩ := h1
  obtain ⟨u, v, w, ev, q1, q2, q3⟩ := isL_3 i1
  unfold Is at q1 q2 q3
  exact ⟨i, j, -1, (i - j).toNat, by rw [ev, q1, q2, q3], RgC.neg a1 a2 b1 b2, k _ _ M1 H1 o1 e1 itR_dn h1⟩
end
theorem vfor_dn {va : DA} {g : DG} {b : DS} {Ed : DEnds} {γ : Gm} {M M1 : Mem} (lo hi : Int) (hva : ∀ F : List D → Mem → Prop, F [.int lo, .int hi, .int (-1)] M1 → va γ M F) (a1 : -(2 ^ 62) ≤ lo) (a2 : lo < 2 ^ 62) (b1 : -(2 ^ 62) ≤ hi) (b2 : hi < 2 ^ 62) (W : Nat → Gm → Mem → Prop) (h0 : W 0 γ M1)
    (step : ∀ i γ' M', W i γ' M' → i < (lo - hi).toNat → g (.int (lo - (i : Int))) γ' M' fun γ2 M2 => b { Ed with nx := W (i + 1), ct := W (i + 1), bk := Ed.nx } γ2 M2) (hd : ∀ γ' M', W (lo - hi).toNat γ' M' → Ed.nx γ' M') : vFor (wRng3 va) g b Ed γ M :=
  hva _ ⟨lo, hi, rfl, a1, a2, b1, b2, W, h0, fun _ _ _ _ => trivial, fun i d γ' M' w hq => by
    obtain ⟨hlt, rfl⟩ := (dnD_get _ _ _ _).mp hq
    exact step i γ' M' w hlt, fun γ' M' w => by
    have e : (dnD lo (lo - hi).toNat).length = (lo - hi).toNat := dnD_len _ _
    exact hd γ' M' (by rw [← e]; exact w)⟩
section
variable {g : DG} {t : DT} {e ve : DE} {vs : List Nat} {γ : Gm} {M M1 : Mem} {R : DR} (c : D → Bool) (f : D → D)
theorem mf_lk (p : Addr) {o : Obj} {xs : List V} {ks : List Key} {ds : List D} (hve : ∀ F : DR, F (.own p) M1 → ve γ M F) (hm : M1 p = some (.lck o xs ks ds)) (hl : ks.length < sizeLine) (hp : ∀ d ∈ ks.map datK, c d = true → pureD (f d) = true)
    (step : ∀ (i : Nat) (d : D) (r : Addr) (acc : List D) (P : DR) (Q : Mem → Prop), (ks.map datK)[i]? = some d → M1 r = none → (c d = true → P (f d) (mset M1 r (.lst acc))) → (c d = false → Q (mset M1 r (.lst acc))) →
      g d (gwipe γ vs) (mset M1 r (.lst acc)) fun γ2 M2 => t γ2 M2 fun b M3 => (b = true → e γ2 M3 P) ∧ (b = false → Q M3))
    (hR : R (.lst (((ks.map datK).filter c).map f)) M1) : vLc (wLk ve) g t e vs γ M R :=
  hve _ ⟨o, xs, ks, ds, hm, lc_mf (j := ⟨ks.map datK, fun M => M p = some (.lck o xs ks ds)⟩) c f (by show (ks.map datK).length < _; rw [List.length_map]; exact hl) (fun r acc hr => by
    have ne : p ≠ r := fun z => by rw [z, hr] at hm; cases hm
    show mset M1 r (.lst acc) p = _
    rw [mset_ne ne]; exact hm) hp step hR⟩
end
end Dl
namespace K96
open PySem L2 Dl
def csL : List PySem.Str := ["InvalidLine", "InvalidRange", "InvalidNumber", "InvalidList", "UnknownName", "TakenName", "InvalidName", "NothingToUndo"]
theorem in_InvalidLine : (("InvalidLine" : PySem.Str) ∈ csL) = True := eq_true (by decide +kernel)
theorem nf_InvalidLine : noFld ("InvalidLine" : PySem.Str) = false := by decide +kernel
theorem fl_InvalidLine : fldN ("InvalidLine" : PySem.Str) = ("value" : PySem.Str) := by decide +kernel
theorem in_InvalidRange : (("InvalidRange" : PySem.Str) ∈ csL) = True := eq_true (by decide +kernel)
theorem nf_InvalidRange : noFld ("InvalidRange" : PySem.Str) = false := by decide +kernel
theorem fl_InvalidRange : fldN ("InvalidRange" : PySem.Str) = ("value" : PySem.Str) := by decide +kernel
theorem in_InvalidNumber : (("InvalidNumber" : PySem.Str) ∈ csL) = True := eq_true (by decide +kernel)
theorem nf_InvalidNumber : noFld ("InvalidNumber" : PySem.Str) = false := by decide +kernel
theorem fl_InvalidNumber : fldN ("InvalidNumber" : PySem.Str) = ("value" : PySem.Str) := by decide +kernel
theorem in_InvalidList : (("InvalidList" : PySem.Str) ∈ csL) = True := eq_true (by decide +kernel)
theorem nf_InvalidList : noFld ("InvalidList" : PySem.Str) = false := by decide +kernel
theorem fl_InvalidList : fldN ("InvalidList" : PySem.Str) = ("value" : PySem.Str) := by decide +kernel
theorem in_UnknownName : (("UnknownName" : PySem.Str) ∈ csL) = True := eq_true (by decide +kernel)
theorem nf_UnknownName : noFld ("UnknownName" : PySem.Str) = false := by decide +kernel
theorem fl_UnknownName : fldN ("UnknownName" : PySem.Str) = ("name" : PySem.Str) := by decide +kernel
theorem in_TakenName : (("TakenName" : PySem.Str) ∈ csL) = True := eq_true (by decide +kernel)
theorem nf_TakenName : noFld ("TakenName" : PySem.Str) = false := by decide +kernel
theorem fl_TakenName : fldN ("TakenName" : PySem.Str) = ("name" : PySem.Str) := by decide +kernel
theorem in_InvalidName : (("InvalidName" : PySem.Str) ∈ csL) = True := eq_true (by decide +kernel)
theorem nf_InvalidName : noFld ("InvalidName" : PySem.Str) = false := by decide +kernel
theorem fl_InvalidName : fldN ("InvalidName" : PySem.Str) = ("name" : PySem.Str) := by decide +kernel
theorem in_NothingToUndo : (("NothingToUndo" : PySem.Str) ∈ csL) = True := eq_true (by decide +kernel)
theorem nf_NothingToUndo : noFld ("NothingToUndo" : PySem.Str) = true := by decide +kernel
theorem fl_NothingToUndo : fldN ("NothingToUndo" : PySem.Str) = ("value" : PySem.Str) := by decide +kernel
end K96
namespace K96
open PySem L2 Dl
def top (i : Nat) : Stmt := PySem.Challenge.pw_fourtests_k96_whole_full_libraries.main.body.getD i (.Pass ⟨0, 0, 0, 0⟩)
abbrev s_is_whole : Stmt := top 12
abbrev s_check_parts : Stmt := top 24
abbrev s_Line___init__ : Stmt := inClass (top 25) 0
abbrev s__law_mixed : Stmt := top 53
abbrev s__law_draw : Stmt := top 55
abbrev s__law_entry : Stmt := top 57
abbrev s_is_name : Stmt := top 50
abbrev s_check_line : Stmt := top 26
abbrev s_check_range : Stmt := top 15
abbrev s_Library_set_entry : Stmt := inClass (top 51) 5
abbrev s_Library_step : Stmt := inClass (top 51) 6
abbrev s_Library_put : Stmt := inClass (top 51) 7
abbrev s__law_put : Stmt := top 58
abbrev s_Library_check_kept : Stmt := inClass (top 51) 4
abbrev s_Library_widen : Stmt := inClass (top 51) 9
abbrev s_Library_change : Stmt := inClass (top 51) 10
abbrev s_Library_drop : Stmt := inClass (top 51) 8
abbrev s__law_step : Stmt := top 59
abbrev s_Library_log : Stmt := inClass (top 51) 19
abbrev s_Library_names : Stmt := inClass (top 51) 16
abbrev s_Library___len__ : Stmt := inClass (top 51) 1
abbrev s_Library___contains__ : Stmt := inClass (top 51) 2
abbrev s_Line_over : Stmt := inClass (top 25) 3
abbrev s_Line_plus : Stmt := inClass (top 25) 2
abbrev s_Line_times : Stmt := inClass (top 25) 1
abbrev s_Line___repr__ : Stmt := inClass (top 25) 12
abbrev s__law_entry_right : Stmt := top 60
abbrev s_Library_entry : Stmt := inClass (top 51) 11
abbrev s__law_shows : Stmt := top 61
abbrev s_is_piece : Stmt := top 42
abbrev s_check_pieces : Stmt := top 43
abbrev s_common_divisor : Stmt := top 17
abbrev s_fraction : Stmt := top 18
abbrev s_check_whole : Stmt := top 13
abbrev s_Line___call__ : Stmt := inClass (top 25) 7
abbrev s_lowered : Stmt := top 20
abbrev s_raised : Stmt := top 21
abbrev s_greatest : Stmt := top 22
abbrev s_place_of : Stmt := top 29
abbrev s_low_slope : Stmt := top 30
abbrev s_Line___neg__ : Stmt := inClass (top 25) 13
abbrev s_slopes : Stmt := top 31
abbrev s_less : Stmt := top 19
abbrev s_unfolded : Stmt := top 33
abbrev s_simple_between : Stmt := top 32
abbrev s_highest : Stmt := top 28
abbrev s_simplest : Stmt := top 34
abbrev s_leaning : Stmt := top 35
abbrev s_corners : Stmt := top 44
abbrev s_bars_of : Stmt := top 45
abbrev s_pieces_slopes : Stmt := top 46
abbrev s_check_base : Stmt := top 14
abbrev s_inside : Stmt := top 38
abbrev s_power : Stmt := top 16
abbrev s_pieces_recipe : Stmt := top 47
abbrev s_Library_together : Stmt := inClass (top 51) 15
abbrev s__law_together_right : Stmt := top 62
abbrev s__law_purse : Stmt := top 54
abbrev s__law_names : Stmt := top 56
abbrev s_Library___init__ : Stmt := inClass (top 51) 0
abbrev s_Library_copy : Stmt := inClass (top 51) 17
abbrev s_Library_back : Stmt := inClass (top 51) 18
abbrev s_law : Stmt := top 63
def fnL : List He5.DefA := [
  ⟨fun K => He.ga K "is_whole", "is_whole", "is_whole", defArgs s_is_whole, defBody s_is_whole, defScope s_is_whole, [], []⟩,
  ⟨fun K => He.ga K "check_parts", "check_parts", "check_parts", defArgs s_check_parts, defBody s_check_parts, defScope s_check_parts, [], []⟩,
  ⟨fun K => He.ma K (He.ga K "Line") "__init__", "__init__", "Line.__init__", defArgs s_Line___init__, defBody s_Line___init__, defScope s_Line___init__, [], []⟩,
  ⟨fun K => He.ga K "_law_mixed", "_law_mixed", "_law_mixed", defArgs s__law_mixed, defBody s__law_mixed, defScope s__law_mixed, [], []⟩,
  ⟨fun K => He.ga K "_law_draw", "_law_draw", "_law_draw", defArgs s__law_draw, defBody s__law_draw, defScope s__law_draw, [], []⟩,
  ⟨fun K => He.ga K "_law_entry", "_law_entry", "_law_entry", defArgs s__law_entry, defBody s__law_entry, defScope s__law_entry, [], []⟩,
  ⟨fun K => He.ga K "is_name", "is_name", "is_name", defArgs s_is_name, defBody s_is_name, defScope s_is_name, [], []⟩,
  ⟨fun K => He.ga K "check_line", "check_line", "check_line", defArgs s_check_line, defBody s_check_line, defScope s_check_line, [], []⟩,
  ⟨fun K => He.ga K "check_range", "check_range", "check_range", defArgs s_check_range, defBody s_check_range, defScope s_check_range, [], []⟩,
  ⟨fun K => He.ma K (He.ga K "Library") "set_entry", "set_entry", "Library.set_entry", defArgs s_Library_set_entry, defBody s_Library_set_entry, defScope s_Library_set_entry, [], []⟩,
  ⟨fun K => He.ma K (He.ga K "Library") "step", "step", "Library.step", defArgs s_Library_step, defBody s_Library_step, defScope s_Library_step, [], []⟩,
  ⟨fun K => He.ma K (He.ga K "Library") "put", "put", "Library.put", defArgs s_Library_put, defBody s_Library_put, defScope s_Library_put, [], []⟩,
  ⟨fun K => He.ga K "_law_put", "_law_put", "_law_put", defArgs s__law_put, defBody s__law_put, defScope s__law_put, [], []⟩,
  ⟨fun K => He.ma K (He.ga K "Library") "check_kept", "check_kept", "Library.check_kept", defArgs s_Library_check_kept, defBody s_Library_check_kept, defScope s_Library_check_kept, [], []⟩,
  ⟨fun K => He.ma K (He.ga K "Library") "widen", "widen", "Library.widen", defArgs s_Library_widen, defBody s_Library_widen, defScope s_Library_widen, [], []⟩,
  ⟨fun K => He.ma K (He.ga K "Library") "change", "change", "Library.change", defArgs s_Library_change, defBody s_Library_change, defScope s_Library_change, [], []⟩,
  ⟨fun K => He.ma K (He.ga K "Library") "drop", "drop", "Library.drop", defArgs s_Library_drop, defBody s_Library_drop, defScope s_Library_drop, [], []⟩,
  ⟨fun K => He.ga K "_law_step", "_law_step", "_law_step", defArgs s__law_step, defBody s__law_step, defScope s__law_step, [], []⟩,
  ⟨fun K => He.ma K (He.ga K "Library") "log", "log", "Library.log", defArgs s_Library_log, defBody s_Library_log, defScope s_Library_log, [], []⟩,
  ⟨fun K => He.ma K (He.ga K "Library") "names", "names", "Library.names", defArgs s_Library_names, defBody s_Library_names, defScope s_Library_names, [], []⟩,
  ⟨fun K => He.ma K (He.ga K "Library") "__len__", "__len__", "Library.__len__", defArgs s_Library___len__, defBody s_Library___len__, defScope s_Library___len__, [], []⟩,
  ⟨fun K => He.ma K (He.ga K "Library") "__contains__", "__contains__", "Library.__contains__", defArgs s_Library___contains__, defBody s_Library___contains__, defScope s_Library___contains__, [], []⟩,
  ⟨fun K => propG K (He.ga K "Line") "over", "over", "Line.over", defArgs s_Line_over, defBody s_Line_over, defScope s_Line_over, [], []⟩,
  ⟨fun K => propG K (He.ga K "Line") "plus", "plus", "Line.plus", defArgs s_Line_plus, defBody s_Line_plus, defScope s_Line_plus, [], []⟩,
  ⟨fun K => propG K (He.ga K "Line") "times", "times", "Line.times", defArgs s_Line_times, defBody s_Line_times, defScope s_Line_times, [], []⟩,
  ⟨fun K => He.ma K (He.ga K "Line") "__repr__", "__repr__", "Line.__repr__", defArgs s_Line___repr__, defBody s_Line___repr__, defScope s_Line___repr__, [], []⟩,
  ⟨fun K => He.ga K "_law_entry_right", "_law_entry_right", "_law_entry_right", defArgs s__law_entry_right, defBody s__law_entry_right, defScope s__law_entry_right, [], []⟩,
  ⟨fun K => He.ma K (He.ga K "Library") "entry", "entry", "Library.entry", defArgs s_Library_entry, defBody s_Library_entry, defScope s_Library_entry, [], []⟩,
  ⟨fun K => He.ga K "_law_shows", "_law_shows", "_law_shows", defArgs s__law_shows, defBody s__law_shows, defScope s__law_shows, [], []⟩,
  ⟨fun K => He.ga K "is_piece", "is_piece", "is_piece", defArgs s_is_piece, defBody s_is_piece, defScope s_is_piece, [], []⟩,
  ⟨fun K => He.ga K "check_pieces", "check_pieces", "check_pieces", defArgs s_check_pieces, defBody s_check_pieces, defScope s_check_pieces, [], []⟩,
  ⟨fun K => He.ga K "common_divisor", "common_divisor", "common_divisor", defArgs s_common_divisor, defBody s_common_divisor, defScope s_common_divisor, [], []⟩,
  ⟨fun K => He.ga K "fraction", "fraction", "fraction", defArgs s_fraction, defBody s_fraction, defScope s_fraction, [], []⟩,
  ⟨fun K => He.ga K "check_whole", "check_whole", "check_whole", defArgs s_check_whole, defBody s_check_whole, defScope s_check_whole, [.non], []⟩,
  ⟨fun K => He.ma K (He.ga K "Line") "__call__", "__call__", "Line.__call__", defArgs s_Line___call__, defBody s_Line___call__, defScope s_Line___call__, [], []⟩,
  ⟨fun K => He.ga K "lowered", "lowered", "lowered", defArgs s_lowered, defBody s_lowered, defScope s_lowered, [], []⟩,
  ⟨fun K => He.ga K "raised", "raised", "raised", defArgs s_raised, defBody s_raised, defScope s_raised, [], []⟩,
  ⟨fun K => He.ga K "greatest", "greatest", "greatest", defArgs s_greatest, defBody s_greatest, defScope s_greatest, [], []⟩,
  ⟨fun K => He.ga K "place_of", "place_of", "place_of", defArgs s_place_of, defBody s_place_of, defScope s_place_of, [], []⟩,
  ⟨fun K => He.ga K "low_slope", "low_slope", "low_slope", defArgs s_low_slope, defBody s_low_slope, defScope s_low_slope, [], []⟩,
  ⟨fun K => He.ma K (He.ga K "Line") "__neg__", "__neg__", "Line.__neg__", defArgs s_Line___neg__, defBody s_Line___neg__, defScope s_Line___neg__, [], []⟩,
  ⟨fun K => He.ga K "slopes", "slopes", "slopes", defArgs s_slopes, defBody s_slopes, defScope s_slopes, [], []⟩,
  ⟨fun K => He.ga K "less", "less", "less", defArgs s_less, defBody s_less, defScope s_less, [], []⟩,
  ⟨fun K => He.ga K "unfolded", "unfolded", "unfolded", defArgs s_unfolded, defBody s_unfolded, defScope s_unfolded, [], []⟩,
  ⟨fun K => He.ga K "simple_between", "simple_between", "simple_between", defArgs s_simple_between, defBody s_simple_between, defScope s_simple_between, [], []⟩,
  ⟨fun K => He.ga K "highest", "highest", "highest", defArgs s_highest, defBody s_highest, defScope s_highest, [], []⟩,
  ⟨fun K => He.ga K "simplest", "simplest", "simplest", defArgs s_simplest, defBody s_simplest, defScope s_simplest, [], []⟩,
  ⟨fun K => He.ga K "leaning", "leaning", "leaning", defArgs s_leaning, defBody s_leaning, defScope s_leaning, [], []⟩,
  ⟨fun K => He.ga K "corners", "corners", "corners", defArgs s_corners, defBody s_corners, defScope s_corners, [], []⟩,
  ⟨fun K => He.ga K "bars_of", "bars_of", "bars_of", defArgs s_bars_of, defBody s_bars_of, defScope s_bars_of, [], []⟩,
  ⟨fun K => He.ga K "pieces_slopes", "pieces_slopes", "pieces_slopes", defArgs s_pieces_slopes, defBody s_pieces_slopes, defScope s_pieces_slopes, [], []⟩,
  ⟨fun K => He.ga K "check_base", "check_base", "check_base", defArgs s_check_base, defBody s_check_base, defScope s_check_base, [], []⟩,
  ⟨fun K => He.ga K "inside", "inside", "inside", defArgs s_inside, defBody s_inside, defScope s_inside, [], []⟩,
  ⟨fun K => He.ga K "power", "power", "power", defArgs s_power, defBody s_power, defScope s_power, [], []⟩,
  ⟨fun K => He.ga K "pieces_recipe", "pieces_recipe", "pieces_recipe", defArgs s_pieces_recipe, defBody s_pieces_recipe, defScope s_pieces_recipe, [], [("base", .int (2))]⟩,
  ⟨fun K => He.ma K (He.ga K "Library") "together", "together", "Library.together", defArgs s_Library_together, defBody s_Library_together, defScope s_Library_together, [], []⟩,
  ⟨fun K => He.ga K "_law_together_right", "_law_together_right", "_law_together_right", defArgs s__law_together_right, defBody s__law_together_right, defScope s__law_together_right, [], []⟩,
  ⟨fun K => He.ga K "_law_purse", "_law_purse", "_law_purse", defArgs s__law_purse, defBody s__law_purse, defScope s__law_purse, [], []⟩,
  ⟨fun K => He.ga K "_law_names", "_law_names", "_law_names", defArgs s__law_names, defBody s__law_names, defScope s__law_names, [], []⟩,
  ⟨fun K => He.ma K (He.ga K "Library") "__init__", "__init__", "Library.__init__", defArgs s_Library___init__, defBody s_Library___init__, defScope s_Library___init__, [], []⟩,
  ⟨fun K => He.ma K (He.ga K "Library") "copy", "copy", "Library.copy", defArgs s_Library_copy, defBody s_Library_copy, defScope s_Library_copy, [], []⟩,
  ⟨fun K => He.ma K (He.ga K "Library") "back", "back", "Library.back", defArgs s_Library_back, defBody s_Library_back, defScope s_Library_back, [], []⟩,
  ⟨fun K => He.ga K "law", "law", "law", defArgs s_law, defBody s_law, defScope s_law, [], []⟩]
def esL : List DefE := []
def exL (K : PySem.W.Frag) : Bool := isiB K (He.ga K "Line") && (propB K (He.ga K "Line") "over" && (propB K (He.ga K "Line") "plus" && (propB K (He.ga K "Line") "times" && (opB K (He.ga K "Line") "__repr__" && (opB K (He.ga K "Library") "__len__" && (opB K (He.ga K "Library") "__contains__" && (callB K (He.ga K "Line") && (opB K (He.ga K "Line") "__neg__" && (exk0B K "NothingToUndo" && (oclsB K "Library" && (true)))))))))))
def faL : List He.Fa := [.glo "is_whole", .glo "check_parts", .keep "law", .glo "_law_mixed", .glo "_law_draw", .glo "_law_entry", .glo "is_name", .glo "check_line", .glo "check_range", .keep "law", .keep "law", .keep "law", .glo "_law_put", .keep "law", .keep "law", .keep "law", .keep "law", .glo "_law_step", .keep "law", .keep "law", .keep "law", .keep "law", .keep "law", .keep "law", .keep "law", .keep "law", .glo "_law_entry_right", .keep "law", .glo "_law_shows", .glo "is_piece", .glo "check_pieces", .glo "common_divisor", .glo "fraction", .glo "check_whole", .keep "law", .glo "lowered", .glo "raised", .glo "greatest", .glo "place_of", .glo "low_slope", .keep "law", .glo "slopes", .glo "less", .glo "unfolded", .glo "simple_between", .glo "highest", .glo "simplest", .glo "leaning", .glo "corners", .glo "bars_of", .glo "pieces_slopes", .glo "check_base", .glo "inside", .glo "power", .glo "pieces_recipe", .keep "law", .glo "_law_together_right", .glo "_law_purse", .glo "_law_names", .keep "law", .keep "law", .keep "law", .glo "law", .free "abs", .free "bool", .free "dict", .free "enumerate", .free "int", .free "isinstance", .free "len", .free "list", .free "max", .free "min", .free "range", .free "repr", .free "sorted", .free "str", .free "sum", .free "tuple", .str "LETTERS" "abcdefghijklmnopqrstuvwxyz", .cls "Line", .noat "Line" "parts", .glo "Line", .mkr "Line", .cls "Library", .glo "Library", .mkr "Library", .meth "Library" "back", .meth "Library" "change", .meth "Library" "check_kept", .meth "Library" "copy", .meth "Library" "drop", .meth "Library" "entry", .meth "Library" "log", .meth "Library" "names", .meth "Library" "put", .meth "Library" "set_entry", .meth "Library" "step", .meth "Library" "together", .meth "Library" "widen", .glo "FourTestsError", .glo "InvalidLine", .glo "InvalidRange", .glo "InvalidNumber", .glo "InvalidList", .glo "UnknownName", .glo "TakenName", .glo "InvalidName", .glo "NothingToUndo"]
abbrev Rw : PySem.W.OpenRow := PySem.W.OpenLaw.row PySem.Challenge.rw_fourtests_k96_whole_full_libraries
def asL : List Addr := [3, 2, 31, 54, 120, 186, 98, 76, 741, 461, 198, 164, 142, 30, 53, 119, 185, 97, 75, 740, 460, 197, 163, 141, 29, 32, 51, 52, 117, 118, 183, 184, 95, 96, 73, 74, 611, 618, 625, 632, 639, 644, 651, 658, 665, 672, 679, 686, 693, 700, 707, 712, 719, 726, 733, 738, 739, 742, 743, 299, 307, 315, 323, 332, 342, 352, 360, 367, 374, 381, 388, 395, 402, 409, 416, 423, 430, 437, 444, 451, 458, 459, 462, 463, 196, 161, 162, 139, 140, 50, 43, 38, 116, 109, 104, 182, 175, 170, 94, 87, 82, 72, 65, 60, 610, 617, 624, 631, 638, 643, 650, 657, 664, 671, 678, 685, 692, 699, 706, 711, 718, 725, 732, 737, 298, 306, 314, 322, 330, 331, 340, 341, 350, 351, 359, 366, 373, 380, 387, 394, 401, 408, 415, 422, 429, 436, 443, 450, 457, 160, 153, 148, 138, 131, 126, 766, 778, 799, 752, 771, 759, 785, 804, 792, 809, 579, 222, 472, 285, 567, 229, 215, 243, 572, 250, 278, 479, 540, 597, 562, 207, 816, 526, 257, 493, 264, 592, 586, 486, 236, 271, 507, 521, 500, 514, 765, 777, 798, 751, 770, 758, 784, 803, 791, 808, 578, 221, 471, 284, 566, 228, 214, 208, 242, 571, 249, 277, 478, 539, 596, 561, 206, 815, 525, 256, 492, 263, 591, 587, 585, 485, 235, 270, 506, 520, 499, 513, 321, 313, 305]
abbrev hk : PySem.W.Hook := hook4 asL exL faL fnL "/claim/cut.py" esL
def ob (s : PySem.W.SharedT) : AlE := ob4 asL exL faL fnL "/claim/cut.py" esL (HandSHeadRun.getT s)
theorem ob_eq (s : PySem.W.SharedT) : ob s = hk.obs s.abs := ob4_eq (HandSHeadRun.getT_eq s)
def nm0 : List PySem.Str := ["_wall", "__name__", "FourTestsError", "InvalidLine", "InvalidRange", "InvalidNumber", "InvalidList", "UnknownName", "TakenName", "InvalidName", "NothingToUndo", "is_whole", "check_whole", "check_base", "check_range", "power", "common_divisor", "fraction", "less", "lowered"]
def nm1 : List PySem.Str := ["raised", "greatest", "check_parts", "Line", "check_line", "highest", "place_of", "low_slope", "slopes", "simple_between", "unfolded", "simplest", "leaning", "check_place", "inside", "start_ends", "least_recipe", "is_piece", "check_pieces", "corners"]
def nm2 : List PySem.Str := ["bars_of", "pieces_slopes", "pieces_recipe", "LETTERS", "is_name", "Library", "_law_mixed", "_law_purse", "_law_draw", "_law_names", "_law_entry", "_law_put", "_law_step", "_law_entry_right", "_law_shows", "_law_together_right"]
def names : List PySem.Str := nm0 ++ nm1 ++ nm2
theorem run (w : World) : HandSHeadRun.RunEq Rw (PySem.W.view Rw.prog [63]) hk ob 20000 names w := by
  intro os
  kernel_rfl
end K96
namespace Mth
end Mth
namespace Dl
open PySem L2
end Dl
namespace Dl
open PySem L2
end Dl
namespace Dl
open PySem L2
end Dl
namespace Dl
open PySem L2
theorem Sm.div {a : Nat} {t o : Int} (h : Sm a t) (ho : 0 < o) : Sm a (t / o) := by
  have h1 := h.lt
  have h2 := h.gt
  rcases Int.lt_or_le t 0 with h0 | h0
  · have h3 : t ≤ t / o := by
      rw [Int.le_ediv_iff_mul_le ho]
      have : t * o ≤ t * 1 := Int.mul_le_mul_of_nonpos_left (by omega) (by omega)
      omega
    have h4 : t / o < 0 := Int.ediv_neg_of_neg_of_pos h0 ho
    exact sm_of (by omega) (by omega)
  · have h3 : 0 ≤ t / o := Int.ediv_nonneg h0 (by omega)
    have h4 : t / o ≤ t := Int.ediv_le_self _ h0
    exact sm_of (by omega) (by omega)
theorem Sm.le {a : Nat} {x o : Int} (h : Sm a o) (h0 : 0 ≤ x) (h1 : x ≤ o) : Sm a x := by
  have h2 := h.lt
  exact sm_of (by omega) (by omega)
end Dl
namespace Dl
open PySem L2
inductive RowM where
  | given
  | number (n : Int)
  | add (i j : Nat)
  | sub (i j : Nat)
  | times (i : Nat) (n : Int)
  | floor (i : Nat) (k : Int)
  | rest (i : Nat) (k : Int)
  | quo (i : Nat) (k : Int)
  | rem (i : Nat) (k : Int)
def quoM (v k : Int) : Int := if v < 0 then -(-v / k) else v / k
end Dl
namespace Dl
open PySem L2
def gcdI (a b : Int) : Int := (Nat.gcd a.natAbs b.natAbs : Nat)
theorem gcdI_pos {a b : Int} (h : 1 ≤ b) : 0 < gcdI a b := by
  unfold gcdI
  have : 0 < Nat.gcd a.natAbs b.natAbs := Nat.gcd_pos_of_pos_right _ (by omega)
  omega
theorem gcdI_le {a b : Int} (h : 1 ≤ b) : gcdI a b ≤ b := by
  unfold gcdI
  have : Nat.gcd a.natAbs b.natAbs ≤ b.natAbs := Nat.gcd_le_right _ (by omega)
  omega
theorem gcdI_left (a b : Int) : ∃ k, a = gcdI a b * k := by
  obtain ⟨k, hk⟩ := Nat.gcd_dvd_left a.natAbs b.natAbs
  rcases Int.natAbs_eq a with h | h
  · exact ⟨k, by rw [h]; unfold gcdI; rw [Int.natAbs_natCast, ← Int.natCast_mul, ← hk]⟩
  · refine ⟨-(k : Int), ?_⟩
    unfold gcdI
    rw [Int.mul_neg, ← Int.natCast_mul, ← hk]
    omega
theorem gcdI_right (a b : Int) : ∃ k, b = gcdI a b * k := by
  obtain ⟨k, hk⟩ := Nat.gcd_dvd_right a.natAbs b.natAbs
  rcases Int.natAbs_eq b with h | h
  · exact ⟨k, by rw [h]; unfold gcdI; rw [Int.natAbs_natCast, ← Int.natCast_mul, ← hk]⟩
  · refine ⟨-(k : Int), ?_⟩
    unfold gcdI
    rw [Int.mul_neg, ← Int.natCast_mul, ← hk]
    omega
theorem gcdI_mul {g a b : Int} (h : 0 ≤ g) : gcdI (g * a) (g * b) = g * gcdI a b := by
  unfold gcdI
  rw [Int.natAbs_mul, Int.natAbs_mul, Nat.gcd_mul_left, Int.natCast_mul]
  have : (g.natAbs : Int) = g := by omega
  rw [this]
abbrev Tr := Int × Int × Int
def nrm (t p o : Int) : Tr := (t / gcdI t o, p / gcdI t o, o / gcdI t o)
theorem div_left {g k : Int} (h : 0 < g) : g * k / g = k := Int.mul_ediv_cancel_left k (by omega)
theorem nrm_of {t p o : Int} (ho : 1 ≤ o) : ∃ g, 0 < g ∧ t = g * (nrm t p o).1 ∧ p / g = (nrm t p o).2.1 ∧ o = g * (nrm t p o).2.2 ∧ 1 ≤ (nrm t p o).2.2 := by
  have hg := gcdI_pos (a := t) ho
  obtain ⟨a, ha⟩ := gcdI_left t o
  obtain ⟨b, hb⟩ := gcdI_right t o
  have e1 : t / gcdI t o = a := by
    have := div_left (g := gcdI t o) (k := a) hg
    rw [← ha] at this; exact this
  have e2 : o / gcdI t o = b := by
    have := div_left (g := gcdI t o) (k := b) hg
    rw [← hb] at this; exact this
  refine ⟨gcdI t o, hg, ?_, rfl, ?_, ?_⟩
  · show t = gcdI t o * (t / gcdI t o)
    rw [e1]; exact ha
  · show o = gcdI t o * (o / gcdI t o)
    rw [e2]; exact hb
  · show 1 ≤ o / gcdI t o
    rw [e2]
    rcases Int.lt_or_le 0 b with z | z
    · omega
    · have := Int.mul_nonpos_of_nonneg_of_nonpos (Int.le_of_lt hg) z
      omega
theorem nrm_coprime {t p o : Int} (ho : 1 ≤ o) : gcdI (nrm t p o).1 (nrm t p o).2.2 = 1 := by
  obtain ⟨g, hg, e1, e2, e3, e4⟩ := nrm_of (t := t) (p := p) ho
  have hp := gcdI_pos (a := t) ho
  have h : gcdI t o = gcdI t o * gcdI (nrm t p o).1 (nrm t p o).2.2 := by
    rw [← gcdI_mul (by omega)]
    have a1 : gcdI t o * (nrm t p o).1 = t := by
      obtain ⟨a, ha⟩ := gcdI_left t o
      show gcdI t o * (t / gcdI t o) = t
      have := div_left (g := gcdI t o) (k := a) hp
      rw [← ha] at this; rw [this]; exact ha.symm
    have a2 : gcdI t o * (nrm t p o).2.2 = o := by
      obtain ⟨a, ha⟩ := gcdI_right t o
      show gcdI t o * (o / gcdI t o) = o
      have := div_left (g := gcdI t o) (k := a) hp
      rw [← ha] at this; rw [this]; exact ha.symm
    rw [a1, a2]
  have h2 : gcdI t o * gcdI (nrm t p o).1 (nrm t p o).2.2 = gcdI t o * 1 := by rw [← h, Int.mul_one]
  exact Int.eq_of_mul_eq_mul_left (by omega) h2
def lnV (t p o n : Int) : Int := (t * n + p) / o
end Dl
namespace Dl
open PySem L2
def trL (x : Tr) : D := .ln x.1 x.2.1 x.2.2
def nr (x : Tr) : Tr := nrm x.1 x.2.1 x.2.2
def vl (x : Tr) (n : Int) : Int := lnV x.1 x.2.1 x.2.2 n
def negT (x : Tr) : Tr := (-x.1, x.2.2 - 1 - x.2.1, x.2.2)
def gl (ls : List (Option Tr)) (i : Nat) : Option Tr := (ls[i]?).join
def TOk (a b : Nat) (x : Tr) : Prop := 1 ≤ x.2.2 ∧ Sm a x.2.2 ∧ Sm b x.1 ∧ Sm b x.2.1
theorem TOk.mono {a b c d : Nat} {x : Tr} (h : TOk a b x) (h1 : a ≤ c) (h2 : b ≤ d) : TOk c d x := ⟨h.1, h.2.1.mono h1, h.2.2.1.mono h2, h.2.2.2.mono h2⟩
theorem nr_pos {x : Tr} (h : 1 ≤ x.2.2) : 1 ≤ (nr x).2.2 := (nrm_of (t := x.1) (p := x.2.1) h).choose_spec.2.2.2.2
theorem nr_ok {a b : Nat} {x : Tr} (h : TOk a b x) : TOk a b (nr x) := by
  obtain ⟨h1, h2, h3, h4⟩ := h
  have g := gcdI_pos (a := x.1) h1
  exact ⟨nr_pos h1, h2.div g, h3.div g, h4.div g⟩
theorem pow_le {a b : Nat} (h : a ≤ b) : (2 : Int) ^ a ≤ 2 ^ b := by
  have := Nat.pow_le_pow_right (n := 2) (by decide) h
  have e1 : ((2 ^ a : Nat) : Int) = 2 ^ a := by simp
  have e2 : ((2 ^ b : Nat) : Int) = 2 ^ b := by simp
  omega
def LsOk (ls : List (Option Tr)) : Prop := ∀ i x, ls[i]? = some (some x) → TOk (100 * (i + 1)) (13000 * (i + 1)) x
theorem gcdI_neg (a b : Int) : gcdI (-a) b = gcdI a b := by unfold gcdI; rw [Int.natAbs_neg]
theorem LsOk.nr {ls : List (Option Tr)} (h : LsOk ls) : LsOk (ls.map (Option.map nr)) := by
  intro i x e
  rw [List.getElem?_map] at e
  cases q : ls[i]? with
  | none => rw [q] at e; cases e
  | some o =>
    rw [q] at e
    cases o with
    | none => cases e
    | some y => cases e; exact nr_ok (h i y q)
end Dl
namespace Dl
open PySem L2
def B29 (x : Int) : Prop := -10 ^ 29 ≤ x ∧ x ≤ 10 ^ 29
theorem B29.sm {x : Int} (h : B29 x) : Sm 97 x := by
  have e : (10 : Int) ^ 29 < 2 ^ 97 := by decide +kernel
  exact sm_of (by have := h.1; omega) (by have := h.2; omega)
structure PtOk (x : Tr) : Prop where
  t : B29 x.1
  p : B29 x.2.1
  o : B29 x.2.2
  o1 : 1 ≤ x.2.2
structure NrOk (x : Tr) : Prop where
  o1 : 1 ≤ x.2.2
  t : Sm 300 x.1
  p : Sm 320 x.2.1
  o : Sm 200 x.2.2
theorem PtOk.nr {x : Tr} (h : PtOk x) : NrOk x := ⟨h.o1, h.t.sm.mono (by decide), h.p.sm.mono (by decide), h.o.sm.mono (by decide)⟩
theorem B29.le {x : Int} (h : B29 x) : -10 ^ 29 ≤ x ∧ x ≤ 10 ^ 29 := h
end Dl
namespace Dl
open PySem L2
abbrev Pr := Int × Int
def mn (a b : Int) : Int := if b < a then b else a
def mx (a b : Int) : Int := if b > a then b else a
def restE (l h k : Int) : Pr := if l / k = h / k then (l % k, h % k) else (0, k - 1)
def negE (l h k : Int) : Pr := (-(restE (mx (-h) 0) (-l) k).2, -(restE (mx (-h) 0) (-l) k).1)
def posE (l h k : Int) : Pr := restE (mx l 0) h k
def remE (l h k : Int) : Pr := if 0 ≤ h then (if l < 0 then (mn (posE l h k).1 (negE l h k).1, mx (posE l h k).2 (negE l h k).2) else posE l h k) else negE l h k
def remF (x k : Int) : Int := x - k * quoM x k
theorem eu {a k q r : Int} (hk : 0 < k) (h : a = k * q + r) (h0 : 0 ≤ r) (h1 : r < k) : a / k = q ∧ a % k = r :=
  (Int.ediv_emod_unique hk).mpr ⟨by omega, h0, h1⟩
theorem qr (x : Int) {k : Int} (hk : 0 < k) : ∃ q r, x = k * q + r ∧ 0 ≤ r ∧ r < k ∧ x / k = q ∧ x % k = r :=
  ⟨x / k, x % k, by rw [Int.mul_ediv_add_emod], Int.emod_nonneg _ (by omega), Int.emod_lt_of_pos _ hk, rfl, rfl⟩
theorem div_mono {x y k : Int} (hk : 0 < k) (h : x ≤ y) : x / k ≤ y / k := Int.ediv_le_ediv hk h
theorem restE_ok {l h k x : Int} (hk : 1 ≤ k) (h1 : l ≤ x) (h2 : x ≤ h) : (restE l h k).1 ≤ x % k ∧ x % k ≤ (restE l h k).2 := by
  unfold restE
  split
  · rename_i e
    have a := div_mono (k := k) (by omega) h1
    have b := div_mono (k := k) (by omega) h2
    have ex : x / k = l / k := by omega
    show l % k ≤ x % k ∧ x % k ≤ h % k
    rw [Int.emod_def, Int.emod_def, Int.emod_def, ex, ← e]
    omega
  · have := Int.emod_nonneg x (show k ≠ 0 by omega)
    have := Int.emod_lt_of_pos x (show 0 < k by omega)
    show 0 ≤ x % k ∧ x % k ≤ k - 1
    omega
theorem remF_pos {x k : Int} (h : 0 ≤ x) : remF x k = x % k := by
  unfold remF quoM
  rw [if_neg (by omega), Int.emod_def]
theorem remF_neg {x k : Int} (h : x < 0) : remF x k = -(-x % k) := by
  unfold remF quoM
  rw [if_pos h, Int.emod_def, Int.mul_neg]
  omega
theorem remF_npos {x k : Int} (h : x ≤ 0) : remF x k = -(-x % k) := by
  rcases Int.lt_or_eq_of_le h with h | h
  · exact remF_neg h
  · subst h
    rw [remF_pos (by omega)]
    simp
theorem mx_ge (a b : Int) : a ≤ mx a b ∧ b ≤ mx a b := by unfold mx; split <;> omega
theorem mn_le (a b : Int) : mn a b ≤ a ∧ mn a b ≤ b := by unfold mn; split <;> omega
theorem mx_or (a b : Int) : mx a b = a ∨ mx a b = b := by unfold mx; split <;> simp
theorem mn_or (a b : Int) : mn a b = a ∨ mn a b = b := by unfold mn; split <;> simp
theorem remE_ok {l h k x : Int} (hk : 1 ≤ k) (h1 : l ≤ x) (h2 : x ≤ h) : (remE l h k).1 ≤ remF x k ∧ remF x k ≤ (remE l h k).2 := by
  have pos : 0 ≤ x → (posE l h k).1 ≤ remF x k ∧ remF x k ≤ (posE l h k).2 := fun hx => by
    rw [remF_pos hx]
    refine restE_ok hk ?_ h2
    unfold mx; split <;> omega
  have neg : x ≤ 0 → (negE l h k).1 ≤ remF x k ∧ remF x k ≤ (negE l h k).2 := fun hx => by
    rw [remF_npos hx]
    have a := restE_ok (l := mx (-h) 0) (h := -l) (x := -x) hk (by unfold mx; split <;> omega) (by omega)
    unfold negE
    show -_ ≤ _ ∧ _ ≤ -_
    omega
  unfold remE
  split
  · split
    · have a := mn_le (posE l h k).1 (negE l h k).1
      have b := mx_ge (posE l h k).2 (negE l h k).2
      show mn _ _ ≤ _ ∧ _ ≤ mx _ _
      by_cases hx : 0 ≤ x
      · have := pos hx; omega
      · have := neg (by omega); omega
    · exact pos (by omega)
  · exact neg (by omega)
theorem quo_mono {x y k : Int} (hk : 1 ≤ k) (h : x ≤ y) : quoM x k ≤ quoM y k := by
  unfold quoM
  split
  · split
    · have := div_mono (k := k) (x := -y) (y := -x) (by omega) (by omega); omega
    · have a := Int.ediv_nonneg (a := -x) (b := k) (by omega) (by omega)
      have b := Int.ediv_nonneg (a := y) (b := k) (by omega) (by omega)
      omega
  · split
    · omega
    · exact div_mono (by omega) h
def BOk (n : Nat) (b : Pr) : Prop := b.1 ≤ b.2 ∧ Sm n b.1 ∧ Sm n b.2
theorem BOk.mono {m n : Nat} {b : Pr} (h : BOk m b) (hm : m ≤ n) : BOk n b := ⟨h.1, h.2.1.mono hm, h.2.2.mono hm⟩
def upM (l k : Int) : Int := l + (0 - l) % k
def dnM (h k : Int) : Int := h - h % k
def smp (l h k : Int) : List Int := [l, h, 0, -1, 1, upM l k - 1, upM l k, upM l k + 1, dnM h k - 1, dnM h k, dnM h k + 1, upM l k + k - 1, upM l k + k, upM l k + k + 1, dnM h k - k - 1, dnM h k - k, dnM h k - k + 1]
theorem up_eq {l k q r : Int} (hk : 0 < k) (e : l = k * q + r) (h0 : 0 ≤ r) (h1 : r < k) : upM l k = if r = 0 then l else k * q + k := by
  unfold upM
  split
  · rename_i z
    have a := (eu (a := 0 - l) (k := k) (q := -q) (r := 0) hk (by rw [Int.mul_neg]; omega) (by omega) hk).2
    omega
  · have a := (eu (a := 0 - l) (k := k) (q := -q - 1) (r := k - r) hk (by rw [Int.mul_sub, Int.mul_neg]; omega) (by omega) (by omega)).2
    omega
theorem dn_eq {h k q r : Int} (hk : 0 < k) (e : h = k * q + r) (h0 : 0 ≤ r) (h1 : r < k) : dnM h k = k * q := by
  unfold dnM
  rw [(eu hk e h0 h1).2]; omega
def Att (f : Int → Int) (l h k v : Int) : Prop := ∃ x, x ∈ smp l h k ∧ l ≤ x ∧ x ≤ h ∧ f x = v
theorem gap {l h k q r q2 r2 : Int} (hk : 0 < k) (e : l = k * q + r) (h0 : 0 ≤ r) (h1 : r < k) (e2 : h = k * q2 + r2) (h3 : 0 ≤ r2) (h4 : r2 < k) (hl : l ≤ h) (hne : q ≠ q2) : k * q + k ≤ k * q2 := by
  have a := div_mono hk hl
  rw [(eu hk e h0 h1).1, (eu hk e2 h3 h4).1] at a
  have b : q + 1 ≤ q2 := by omega
  have c := Int.mul_le_mul_of_nonneg_left b (show 0 ≤ k by omega)
  rw [Int.mul_add, Int.mul_one] at c
  exact c
theorem rest_att {l h k : Int} (hk : 1 ≤ k) (hl : l ≤ h) : Att (· % k) l h k (restE l h k).1 ∧ Att (· % k) l h k (restE l h k).2 := by
  have hk' : 0 < k := by omega
  obtain ⟨q, r, e, h0, h1, eq, er⟩ := qr l hk'
  obtain ⟨q2, r2, e2, h3, h4, eq2, er2⟩ := qr h hk'
  unfold restE
  rw [eq, eq2]
  split
  · exact ⟨⟨l, by simp [smp], Int.le_refl _, hl, rfl⟩, ⟨h, by simp [smp], hl, Int.le_refl _, rfl⟩⟩
  · rename_i hne
    have g := gap hk' e h0 h1 e2 h3 h4 hl hne
    have u := up_eq hk' e h0 h1
    refine ⟨⟨upM l k, by simp [smp], ?_, ?_, ?_⟩, ?_⟩
    · rw [u]; split <;> omega
    · rw [u]; split <;> omega
    · rw [u]; split
      · rename_i z; subst z; exact (eu hk' (q := q) (r := 0) (by omega) (by omega) hk').2
      · exact (eu hk' (q := q + 1) (r := 0) (by rw [Int.mul_add]; omega) (by omega) hk').2
    · by_cases z : r = 0
      · refine ⟨upM l k + k - 1, by simp [smp], ?_, ?_, ?_⟩
        · rw [u, if_pos z]; omega
        · rw [u, if_pos z]; omega
        · rw [u, if_pos z]; exact (eu hk' (q := q) (r := k - 1) (by omega) (by omega) (by omega)).2
      · refine ⟨upM l k - 1, by simp [smp], ?_, ?_, ?_⟩
        · rw [u, if_neg z]; omega
        · rw [u, if_neg z]; omega
        · rw [u, if_neg z]; exact (eu hk' (q := q) (r := k - 1) (by omega) (by omega) (by omega)).2
theorem neg_emod {k q r : Int} (hk : 0 < k) (h0 : 0 ≤ r) (h1 : r < k) {x : Int} (e : -x = k * q + r) (hx : x ≤ 0) : remF x k = -r := by
  rw [remF_npos hx, (eu hk e h0 h1).2]
theorem posE_att {l h k : Int} (hk : 1 ≤ k) (hl : l ≤ h) (hh : 0 ≤ h) : Att (remF · k) l h k (posE l h k).1 ∧ Att (remF · k) l h k (posE l h k).2 := by
  have hk' : 0 < k := by omega
  by_cases h0 : 0 ≤ l
  · have em : mx l 0 = l := by unfold mx; split <;> omega
    unfold posE
    rw [em]
    obtain ⟨⟨x, m1, a1, b1, c1⟩, ⟨y, m2, a2, b2, c2⟩⟩ := rest_att hk hl
    exact ⟨⟨x, m1, a1, b1, by show remF x k = _; rw [remF_pos (by omega)]; exact c1⟩, ⟨y, m2, a2, b2, by show remF y k = _; rw [remF_pos (by omega)]; exact c2⟩⟩
  · have em : mx l 0 = 0 := by unfold mx; split <;> omega
    unfold posE
    rw [em]
    obtain ⟨q2, r2, e2, h3, h4, eq2, er2⟩ := qr h hk'
    unfold restE
    rw [Int.zero_ediv, eq2]
    split
    · exact ⟨⟨0, by simp [smp], by omega, by omega, by show remF 0 k = _; rw [remF_pos (by omega)]⟩, ⟨h, by simp [smp], hl, Int.le_refl _, by show remF h k = _; rw [remF_pos (by omega)]⟩⟩
    · rename_i hne
      have d := dn_eq hk' e2 h3 h4
      have g := gap (l := 0) (q := 0) (r := 0) hk' (by simp) (by omega) hk' e2 h3 h4 hh hne
      refine ⟨⟨0, by simp [smp], by omega, by omega, by show remF 0 k = 0; rw [remF_pos (by omega)]; simp⟩, ⟨dnM h k - 1, by simp [smp], ?_, ?_, ?_⟩⟩
      · rw [d]; omega
      · rw [d]; omega
      · show remF _ k = k - 1
        rw [d, remF_pos (by omega)]
        exact (eu hk' (q := q2 - 1) (r := k - 1) (by rw [Int.mul_sub]; omega) (by omega) (by omega)).2
theorem negE_att {l h k : Int} (hk : 1 ≤ k) (hl : l ≤ h) (hh : l < 0) : Att (remF · k) l h k (negE l h k).1 ∧ Att (remF · k) l h k (negE l h k).2 := by
  have hk' : 0 < k := by omega
  have hz := mx_ge (-h) 0
  have hzo := mx_or (-h) 0
  generalize ez : mx (-h) 0 = z at hz hzo
  have hzl : z ≤ -l := by omega
  obtain ⟨q, r, e, h0, h1, eq, er⟩ := qr z hk'
  obtain ⟨q2, r2, e2, h3, h4, eq2, er2⟩ := qr (-l) hk'
  -- the number nearest to 0
  have near : ∃ x, x ∈ smp l h k ∧ l ≤ x ∧ x ≤ h ∧ x = -z := by
    rcases hzo with c | c
    · exact ⟨h, by simp [smp], hl, Int.le_refl _, by omega⟩
    · exact ⟨0, by simp [smp], by omega, by omega, by omega⟩
  obtain ⟨x, mx1, xl, xh, ex⟩ := near
  have u : upM l k = -(k * q2) := by
    unfold upM
    rw [show (0 : Int) - l = -l by omega, er2]; omega
  unfold negE restE
  rw [ez, eq, eq2]
  split
  · refine ⟨⟨l, by simp [smp], Int.le_refl _, hl, ?_⟩, ⟨x, mx1, xl, xh, ?_⟩⟩
    · show remF l k = -(-l % k); exact remF_npos (by omega)
    · show remF x k = -(z % k)
      rw [remF_npos (by omega), ex, Int.neg_neg]
  · rename_i hne
    have g := gap hk' e h0 h1 e2 h3 h4 hzl hne
    refine ⟨?_, ⟨upM l k, by simp [smp], ?_, ?_, ?_⟩⟩
    · by_cases c : upM l k + 1 ≤ h
      · refine ⟨upM l k + 1, by simp [smp], ?_, c, ?_⟩
        · rw [u]; omega
        · show remF _ k = -(k - 1)
          rw [u]
          refine neg_emod hk' (q := q2 - 1) (by omega) (by omega) (by rw [Int.mul_sub]; omega) ?_
          have : k * q + k ≤ k * q2 := g
          have : 0 ≤ q := by
            rw [← eq]; exact Int.ediv_nonneg (by omega) (by omega)
          have : 0 ≤ k * q := Int.mul_nonneg (by omega) this
          omega
      · -- up is the high end itself, a multiple of k
        have hu : upM l k = h := by
          rw [u] at c ⊢
          have a : k * q ≤ z := by omega
          have : z ≤ k * q2 := by omega
          have hz2 : z = -h ∨ z = 0 := hzo
          have q0 : 0 ≤ k * q := Int.mul_nonneg (by omega) (by rw [← eq]; exact Int.ediv_nonneg (by omega) (by omega))
          omega
        have hz3 : z = k * q2 := by rw [u] at hu; omega
        exfalso
        have b := (eu (a := z) hk' (q := q2) (r := 0) (by omega) (by omega) hk').1
        omega
    · rw [u]; omega
    · rw [u]
      have q0 : 0 ≤ k * q := Int.mul_nonneg (by omega) (by rw [← eq]; exact Int.ediv_nonneg (by omega) (by omega))
      omega
    · show remF _ k = -0
      rw [u]
      refine neg_emod hk' (q := q2) (by omega) hk' (by omega) ?_
      have q0 : 0 ≤ k * q := Int.mul_nonneg (by omega) (by rw [← eq]; exact Int.ediv_nonneg (by omega) (by omega))
      omega
theorem rem_att {l h k : Int} (hk : 1 ≤ k) (hl : l ≤ h) : Att (remF · k) l h k (remE l h k).1 ∧ Att (remF · k) l h k (remE l h k).2 := by
  unfold remE
  split
  · split
    · have a := posE_att hk hl (by omega)
      have b := negE_att hk hl (by omega)
      refine ⟨?_, ?_⟩
      · rcases mn_or (posE l h k).1 (negE l h k).1 with e | e <;> simp only [e]
        · exact a.1
        · exact b.1
      · rcases mx_or (posE l h k).2 (negE l h k).2 with e | e <;> simp only [e]
        · exact a.2
        · exact b.2
    · exact posE_att hk hl (by omega)
  · exact negE_att hk hl (by omega)
inductive Dv4 where | floor | rest | quo | rem
def Dv4.row : Dv4 → Nat → Int → RowM
  | .floor, i, k => .floor i k | .rest, i, k => .rest i k | .quo, i, k => .quo i k | .rem, i, k => .rem i k
def Dv4.f (o : Dv4) (k x : Int) : Int := match o with
  | .floor => x / k | .rest => x % k | .quo => quoM x k | .rem => x - k * quoM x k
def Dv4.e (o : Dv4) (l h k : Int) : Pr := match o with
  | .floor => (l / k, h / k) | .rest => restE l h k | .quo => (quoM l k, quoM h k) | .rem => remE l h k
theorem Dv4.ok (o : Dv4) {l h k x : Int} (hk : 1 ≤ k) (h1 : l ≤ x) (h2 : x ≤ h) : (o.e l h k).1 ≤ o.f k x ∧ o.f k x ≤ (o.e l h k).2 := by
  cases o with
  | floor => exact ⟨div_mono (by omega) h1, div_mono (by omega) h2⟩
  | rest => exact restE_ok hk h1 h2
  | quo => exact ⟨quo_mono hk h1, quo_mono hk h2⟩
  | rem => exact remE_ok hk h1 h2
theorem Dv4.att (o : Dv4) {l h k : Int} (hk : 1 ≤ k) (hl : l ≤ h) : Att (o.f k) l h k (o.e l h k).1 ∧ Att (o.f k) l h k (o.e l h k).2 := by
  cases o with
  | floor => exact ⟨⟨l, by simp [smp], Int.le_refl _, hl, rfl⟩, ⟨h, by simp [smp], hl, Int.le_refl _, rfl⟩⟩
  | rest => exact rest_att hk hl
  | quo => exact ⟨⟨l, by simp [smp], Int.le_refl _, hl, rfl⟩, ⟨h, by simp [smp], hl, Int.le_refl _, rfl⟩⟩
  | rem => exact rem_att hk hl
theorem Dv4.least (o : Dv4) {l h k m : Int} (hk : 1 ≤ k) (hl : l ≤ h) {ns : List Int} (hn : ∀ y, y ∈ ns ↔ ∃ x ∈ smp l h k, l ≤ x ∧ x ≤ h ∧ o.f k x = y) (hm : m ∈ ns) (hle : ∀ y ∈ ns, m ≤ y) : m = (o.e l h k).1 := by
  obtain ⟨x, _, a, b, c⟩ := (hn m).mp hm
  have s := o.ok hk a b
  obtain ⟨y, my, ya, yb, yc⟩ := (o.att hk hl).1
  have t := hle _ ((hn _).mpr ⟨y, my, ya, yb, yc⟩)
  omega
theorem Dv4.greatest (o : Dv4) {l h k m : Int} (hk : 1 ≤ k) (hl : l ≤ h) {ns : List Int} (hn : ∀ y, y ∈ ns ↔ ∃ x ∈ smp l h k, l ≤ x ∧ x ≤ h ∧ o.f k x = y) (hm : m ∈ ns) (hle : ∀ y ∈ ns, y ≤ m) : m = (o.e l h k).2 := by
  obtain ⟨x, _, a, b, c⟩ := (hn m).mp hm
  have s := o.ok hk a b
  obtain ⟨y, my, ya, yb, yc⟩ := (o.att hk hl).2
  have t := hle _ ((hn _).mpr ⟨y, my, ya, yb, yc⟩)
  omega
def Dv4.nm : Dv4 → String
  | .floor => "floor" | .rest => "rest" | .quo => "quo" | .rem => "rem"
theorem sm_between {n : Nat} {l h x : Int} (sl : Sm n l) (sh : Sm n h) (h1 : l ≤ x) (h2 : x ≤ h) : Sm n x := sm_of (by have := sl.gt; omega) (by have := sh.lt; omega)
end Dl
namespace Dl
open PySem L2
abbrev Pc := Tr × Int × Int
def pcD (q : Pc) : D := .tup [trL q.1, .int q.2.1, .int q.2.2]
def belT (x : Tr) : Tr := (x.1, x.2.1 - 1, x.2.2)
def topN (x : Tr) (n : Int) : Int := x.1 * n + x.2.1
def dueZ (x : Tr) (n : Int) : Int := if 0 ≤ topN x n then topN x n / x.2.2 else 0 - (0 - topN x n) / x.2.2 - 1
structure PcOk (x : Tr) (h : Int) (q : Pc) : Prop where
  le : q.2.1 ≤ q.2.2
  hi : q.2.2 ≤ h
  sg : ∀ n, q.2.1 ≤ n → n ≤ q.2.2 → (topN x n < 0 ↔ topN x q.2.1 < 0)
  vl : ∀ n, q.2.1 ≤ n → n ≤ q.2.2 → vl q.1 n = dueZ x n
  ln : q.1 = x ∨ q.1 = belT x
end Dl
namespace Dl
open PySem L2
structure Qs where
  t : Int
  p : Int
  o : Int
  L : Int
  s : Int
  w : Int
def Qs.f (q : Qs) (x : Int) : Int := q.s * x + q.w * ((q.t * x + q.p) / q.o)
structure Ans (q : Qs) (v x : Int) : Prop where
  x0 : 0 ≤ x
  xL : x ≤ q.L
  vf : v = q.f x
  le : ∀ y, 0 ≤ y → y ≤ q.L → q.f y ≤ v
def Qs.n (q : Qs) : Qs := ⟨q.t % q.o, q.p % q.o, q.o, q.L, q.s + q.w * (q.t / q.o), q.w⟩
def Qs.fx (q : Qs) : Int := q.w * (q.p / q.o)
def Qs.top (q : Qs) : Int := (q.t * q.L + q.p) / q.o
theorem floor_split {t p o x : Int} (ho : 0 < o) : (t * x + p) / o = t / o * x + p / o + (t % o * x + p % o) / o := by
  have e1 := Int.mul_ediv_add_emod t o
  have e2 := Int.mul_ediv_add_emod p o
  have e : t * x + p = (t % o * x + p % o) + o * (t / o * x + p / o) := by
    have a : t * x = (o * (t / o) + t % o) * x := by rw [e1]
    rw [a, Int.add_mul, Int.mul_add, Int.mul_assoc]
    omega
  rw [e, Int.add_mul_ediv_left _ _ (by omega)]; omega
theorem Qs.f_n {q : Qs} (ho : 0 < q.o) (x : Int) : q.f x = q.fx + q.n.f x := by
  show q.s * x + q.w * ((q.t * x + q.p) / q.o) = q.w * (q.p / q.o) + ((q.s + q.w * (q.t / q.o)) * x + q.w * ((q.t % q.o * x + q.p % q.o) / q.o))
  rw [floor_split ho, Int.mul_add, Int.mul_add, Int.add_mul, Int.mul_assoc]
  omega
theorem Ans.of_n {q : Qs} (ho : 0 < q.o) {v x : Int} (h : Ans q.n v x) : Ans q (q.fx + v) x :=
  ⟨h.x0, h.xL, by rw [Qs.f_n ho, h.vf], fun y y0 y1 => by rw [Qs.f_n ho]; have := h.le y y0 y1; omega⟩
structure Nm (q : Qs) : Prop where
  t0 : 0 ≤ q.t
  t1 : q.t < q.o
  p0 : 0 ≤ q.p
  p1 : q.p < q.o
  L0 : 0 ≤ q.L
theorem Qs.nm {q : Qs} (ho : 0 < q.o) (hL : 0 ≤ q.L) : Nm q.n :=
  ⟨Int.emod_nonneg _ (by omega), Int.emod_lt_of_pos _ ho, Int.emod_nonneg _ (by omega), Int.emod_lt_of_pos _ ho, hL⟩
section
variable {q : Qs} (N : Nm q)
include N
theorem Nm.o0 : 0 < q.o := by have := N.t0; have := N.t1; omega
theorem Nm.at0 : (q.t * 0 + q.p) / q.o = 0 := by
  rw [Int.mul_zero, Int.zero_add]
  exact Int.ediv_eq_zero_of_lt N.p0 N.p1
theorem Nm.mono {x y : Int} (h : x ≤ y) : (q.t * x + q.p) / q.o ≤ (q.t * y + q.p) / q.o := by
  refine Int.ediv_le_ediv N.o0 ?_
  have := Int.mul_le_mul_of_nonneg_left h N.t0
  omega
theorem Nm.f0 : q.f 0 = 0 := by
  unfold Qs.f
  rw [N.at0]; simp
theorem Nm.topL : q.top ≤ q.L := by
  unfold Qs.top
  have h1 : q.t * q.L ≤ (q.o - 1) * q.L := Int.mul_le_mul_of_nonneg_right (by have := N.t1; omega) N.L0
  rw [Int.sub_mul, Int.one_mul] at h1
  have h2 := N.p1
  have : q.t * q.L + q.p < q.o * (q.L + 1) := by rw [Int.mul_add, Int.mul_one]; have := N.L0; omega
  have := Int.ediv_lt_of_lt_mul N.o0 (by rw [Int.mul_comm q.o] at this; exact this)
  omega
theorem Nm.top0 : 0 ≤ q.top := by
  have := N.mono N.L0
  rw [N.at0] at this
  exact this
end
def Brk (q : Qs) : Prop := q.top = 0 ∨ q.w = 0 ∨ (0 ≤ q.s ∧ 0 < q.w) ∨ (q.s ≤ 0 ∧ q.w < 0)
def plM (q : Qs) : Int := if q.s > 0 ∨ (q.s = 0 ∧ q.w > 0) then q.L else 0
theorem brk_ans {q : Qs} (N : Nm q) (h : Brk q) : Ans q (q.f (plM q)) (plM q) := by
  have L0 := N.L0
  have fl0 : ∀ y, 0 ≤ y → 0 ≤ (q.t * y + q.p) / q.o := fun y hy => by have := N.mono hy; rw [N.at0] at this; exact this
  have flL : ∀ y, y ≤ q.L → (q.t * y + q.p) / q.o ≤ q.top := fun y hy => N.mono hy
  have key : ∀ y, 0 ≤ y → y ≤ q.L → q.f y ≤ q.f (plM q) := by
    intro y y0 y1
    have a := fl0 y y0
    have b := flL y y1
    have hz : q.top = 0 ∨ q.w = 0 → q.w * ((q.t * y + q.p) / q.o) = 0 := fun z => by
      rcases z with z | z
      · have : (q.t * y + q.p) / q.o = 0 := by omega
        rw [this, Int.mul_zero]
      · rw [z, Int.zero_mul]
    have hzp : q.top = 0 ∨ q.w = 0 → q.w * ((q.t * plM q + q.p) / q.o) = 0 := fun z => by
      have p0 : 0 ≤ plM q := by unfold plM; split <;> omega
      have p1 : plM q ≤ q.L := by unfold plM; split <;> omega
      have a := fl0 _ p0
      have b := flL _ p1
      rcases z with z | z
      · have : (q.t * plM q + q.p) / q.o = 0 := by omega
        rw [this, Int.mul_zero]
      · rw [z, Int.zero_mul]
    by_cases z : q.top = 0 ∨ q.w = 0
    · unfold Qs.f
      rw [hz z, hzp z]
      unfold plM
      split
      · rename_i c
        have : q.s * y ≤ q.s * q.L := Int.mul_le_mul_of_nonneg_left y1 (by omega)
        omega
      · rename_i c
        have : q.s * y ≤ 0 := Int.mul_nonpos_of_nonpos_of_nonneg (by omega) y0
        omega
    · have h : (0 ≤ q.s ∧ 0 < q.w) ∨ (q.s ≤ 0 ∧ q.w < 0) := by
        rcases h with h | h | h | h
        · exact absurd (.inl h) z
        · exact absurd (.inr h) z
        · exact .inl h
        · exact .inr h
      rcases h with ⟨h1, h2⟩ | ⟨h1, h2⟩
      · have : plM q = q.L := by unfold plM; rw [if_pos (by omega)]
        rw [this]
        unfold Qs.f
        have c := Int.mul_le_mul_of_nonneg_left y1 h1
        have d := Int.mul_le_mul_of_nonneg_left (N.mono y1) (show 0 ≤ q.w by omega)
        omega
      · have : plM q = 0 := by unfold plM; rw [if_neg (by omega)]
        rw [this, N.f0]
        unfold Qs.f
        have c := Int.mul_nonpos_of_nonpos_of_nonneg h1 y0
        have d := Int.mul_nonpos_of_nonpos_of_nonneg (show q.w ≤ 0 by omega) a
        omega
  exact ⟨by unfold plM; split <;> omega, by unfold plM; split <;> omega, rfl, key⟩
def lowQ (q : Qs) : Qs := if q.w > 0 then ⟨q.o, q.o - q.p + q.t - 1, q.t, q.top - 1, q.w, q.s⟩ else ⟨q.o, q.o - q.p - 1, q.t, q.top - 1, q.w, q.s⟩
def upX (q : Qs) (y : Int) : Int := (q.o * y + q.o - q.p + q.t - 1) / q.t
def dnX (q : Qs) (y : Int) : Int := (q.o * y + q.o - q.p - 1) / q.t
def raiM (q : Qs) (fx v y : Int) : Int × Int :=
  if q.w > 0 then (if v + q.w ≤ 0 then (fx, 0) else (fx + v + q.w, upX q y))
  else if q.s * q.L + q.w * q.top ≥ v then (fx + q.s * q.L + q.w * q.top, q.L) else (fx + v, dnX q y)
theorem t_pos {q : Qs} (N : Nm q) (h : q.top ≠ 0) : 0 < q.t := by
  rcases Int.lt_or_eq_of_le N.t0 with z | z
  · exact z
  · exfalso
    apply h
    unfold Qs.top
    rw [← z, Int.zero_mul, Int.zero_add]
    exact Int.ediv_eq_zero_of_lt N.p0 N.p1
theorem top_le {q : Qs} (N : Nm q) : q.o * q.top ≤ q.t * q.L + q.p := Int.mul_ediv_self_le (by have := N.o0; omega)
theorem step_pos {q : Qs} (N : Nm q) (ht : q.top ≠ 0) (hw : 0 < q.w) (hs : q.s < 0) {v y : Int} (A : Ans (lowQ q) v y) : Ans q (raiM q 0 v y).1 (raiM q 0 v y).2 := by
  have tp := t_pos N ht
  have op := N.o0
  have tl := top_le N
  have t0 := N.top0
  have eq : lowQ q = ⟨q.o, q.o - q.p + q.t - 1, q.t, q.top - 1, q.w, q.s⟩ := by unfold lowQ; rw [if_pos hw]
  rw [eq] at A
  have fq : ∀ z, (⟨q.o, q.o - q.p + q.t - 1, q.t, q.top - 1, q.w, q.s⟩ : Qs).f z = q.w * z + q.s * upX q z := fun z => by
    unfold Qs.f upX
    show q.w * z + q.s * ((q.o * z + (q.o - q.p + q.t - 1)) / q.t) = _
    rw [show q.o * z + (q.o - q.p + q.t - 1) = q.o * z + q.o - q.p + q.t - 1 by omega]
  -- facts of the jump
  have up : ∀ z, 0 ≤ z → z ≤ q.top - 1 → 0 ≤ upX q z ∧ upX q z ≤ q.L ∧ (q.t * upX q z + q.p) / q.o = z + 1 ∧ ∀ x, z + 1 ≤ (q.t * x + q.p) / q.o → upX q z ≤ x := by
    intro z z0 z1
    have oz : 0 ≤ q.o * z := Int.mul_nonneg (by omega) z0
    have p1 := N.p1
    have e := Int.mul_ediv_add_emod (q.o * z + q.o - q.p + q.t - 1) q.t
    have r0 := Int.emod_nonneg (q.o * z + q.o - q.p + q.t - 1) (show q.t ≠ 0 by omega)
    have r1 := Int.emod_lt_of_pos (q.o * z + q.o - q.p + q.t - 1) tp
    have hu : q.t * upX q z + (q.o * z + q.o - q.p + q.t - 1) % q.t = q.o * z + q.o - q.p + q.t - 1 := e
    have least : ∀ x, z + 1 ≤ (q.t * x + q.p) / q.o → upX q z ≤ x := by
      intro x hx
      have h1 : q.o * (z + 1) ≤ q.o * ((q.t * x + q.p) / q.o) := Int.mul_le_mul_of_nonneg_left hx (by omega)
      have h2 : q.o * ((q.t * x + q.p) / q.o) ≤ q.t * x + q.p := Int.mul_ediv_self_le (by omega)
      rw [Int.mul_add, Int.mul_one] at h1
      rcases Int.lt_or_le x (upX q z) with c | c
      · have : q.t * x ≤ q.t * (upX q z - 1) := Int.mul_le_mul_of_nonneg_left (by omega) (by omega)
        rw [Int.mul_sub, Int.mul_one] at this
        omega
      · exact c
    refine ⟨?_, ?_, ?_, least⟩
    · exact Int.ediv_nonneg (by omega) (by omega)
    · refine least q.L ?_
      show z + 1 ≤ q.top
      omega
    · have t1 := N.t1
      exact ((Int.ediv_emod_unique op (q := z + 1) (r := q.t * upX q z + q.p - q.o * (z + 1))).mpr ⟨by omega, by rw [Int.mul_add, Int.mul_one]; omega, by rw [Int.mul_add, Int.mul_one]; omega⟩).1
  have yu := up y A.x0 A.xL
  have vy : v = q.w * y + q.s * upX q y := by rw [A.vf, fq]
  have fy : q.f (upX q y) = v + q.w := by
    unfold Qs.f
    rw [yu.2.2.1, Int.mul_add, Int.mul_one, vy]; omega
  have all : ∀ x, 0 ≤ x → x ≤ q.L → q.f x ≤ 0 ∨ q.f x ≤ v + q.w := by
    intro x x0 x1
    have a := N.mono x0
    rw [N.at0] at a
    have b : (q.t * x + q.p) / q.o ≤ q.top := N.mono x1
    by_cases c : (q.t * x + q.p) / q.o = 0
    · left
      unfold Qs.f
      rw [c, Int.mul_zero]
      have := Int.mul_nonpos_of_nonpos_of_nonneg (show q.s ≤ 0 by omega) x0
      omega
    · right
      have hz := up ((q.t * x + q.p) / q.o - 1) (by omega) (by omega)
      have h1 := hz.2.2.2 x (by omega)
      have h2 := A.le ((q.t * x + q.p) / q.o - 1) (by omega) (by show _ ≤ q.top - 1; omega)
      rw [fq] at h2
      have h3 := Int.mul_le_mul_of_nonpos_left (show q.s ≤ 0 by omega) h1
      have h4 : q.w * ((q.t * x + q.p) / q.o - 1) = q.w * ((q.t * x + q.p) / q.o) - q.w := by rw [Int.mul_sub, Int.mul_one]
      unfold Qs.f
      omega
  unfold raiM
  rw [if_pos hw]
  split
  · rename_i c
    refine ⟨Int.le_refl _, N.L0, ?_, fun x x0 x1 => ?_⟩
    · show (0 : Int) = q.f 0; rw [N.f0]
    · show q.f x ≤ 0
      rcases all x x0 x1 with h | h <;> omega
  · rename_i c
    refine ⟨yu.1, yu.2.1, ?_, fun x x0 x1 => ?_⟩
    · show 0 + v + q.w = q.f (upX q y); rw [fy]; omega
    · show q.f x ≤ 0 + v + q.w
      rcases all x x0 x1 with h | h <;> omega
theorem step_neg {q : Qs} (N : Nm q) (ht : q.top ≠ 0) (hw : q.w < 0) (hs : 0 < q.s) {v y : Int} (A : Ans (lowQ q) v y) : Ans q (raiM q 0 v y).1 (raiM q 0 v y).2 := by
  have tp := t_pos N ht
  have op := N.o0
  have tl := top_le N
  have t0 := N.top0
  have eq : lowQ q = ⟨q.o, q.o - q.p - 1, q.t, q.top - 1, q.w, q.s⟩ := by unfold lowQ; rw [if_neg (by omega)]
  rw [eq] at A
  have fq : ∀ z, (⟨q.o, q.o - q.p - 1, q.t, q.top - 1, q.w, q.s⟩ : Qs).f z = q.w * z + q.s * dnX q z := fun z => by
    unfold Qs.f dnX
    show q.w * z + q.s * ((q.o * z + (q.o - q.p - 1)) / q.t) = _
    rw [show q.o * z + (q.o - q.p - 1) = q.o * z + q.o - q.p - 1 by omega]
  have dn : ∀ z, 0 ≤ z → z ≤ q.top - 1 → 0 ≤ dnX q z ∧ dnX q z ≤ q.L ∧ (q.t * dnX q z + q.p) / q.o = z ∧ ∀ x, (q.t * x + q.p) / q.o ≤ z → x ≤ dnX q z := by
    intro z z0 z1
    have oz : 0 ≤ q.o * z := Int.mul_nonneg (by omega) z0
    have p1 := N.p1
    have p0 := N.p0
    have t1 := N.t1
    have e := Int.mul_ediv_add_emod (q.o * z + q.o - q.p - 1) q.t
    have r0 := Int.emod_nonneg (q.o * z + q.o - q.p - 1) (show q.t ≠ 0 by omega)
    have r1 := Int.emod_lt_of_pos (q.o * z + q.o - q.p - 1) tp
    have hu : q.t * dnX q z + (q.o * z + q.o - q.p - 1) % q.t = q.o * z + q.o - q.p - 1 := e
    have most : ∀ x, (q.t * x + q.p) / q.o ≤ z → x ≤ dnX q z := by
      intro x hx
      have h2 : q.t * x + q.p < q.o * ((q.t * x + q.p) / q.o) + q.o := by
        have a := Int.mul_ediv_add_emod (q.t * x + q.p) q.o
        have b := Int.emod_lt_of_pos (q.t * x + q.p) op
        omega
      have h1 : q.o * ((q.t * x + q.p) / q.o) ≤ q.o * z := Int.mul_le_mul_of_nonneg_left hx (by omega)
      rcases Int.lt_or_le (dnX q z) x with c | c
      · have : q.t * (dnX q z + 1) ≤ q.t * x := Int.mul_le_mul_of_nonneg_left (by omega) (by omega)
        rw [Int.mul_add, Int.mul_one] at this
        omega
      · exact c
    refine ⟨Int.ediv_nonneg (by omega) (by omega), ?_, ?_, most⟩
    · rcases Int.lt_or_le q.L (dnX q z) with c | c
      · exfalso
        have h1 : q.t * q.L ≤ q.t * dnX q z := Int.mul_le_mul_of_nonneg_left (by omega) (by omega)
        have h2 : q.o * (z + 1) ≤ q.o * q.top := Int.mul_le_mul_of_nonneg_left (by omega) (by omega)
        rw [Int.mul_add, Int.mul_one] at h2
        omega
      · exact c
    · exact ((Int.ediv_emod_unique op (q := z) (r := q.t * dnX q z + q.p - q.o * z)).mpr ⟨by omega, by omega, by omega⟩).1
  have yu := dn y A.x0 A.xL
  have vy : v = q.w * y + q.s * dnX q y := by rw [A.vf, fq]
  have fy : q.f (dnX q y) = v := by
    unfold Qs.f
    rw [yu.2.2.1, vy]; omega
  have fL : q.f q.L = q.s * q.L + q.w * q.top := rfl
  have all : ∀ x, 0 ≤ x → x ≤ q.L → q.f x ≤ q.s * q.L + q.w * q.top ∨ q.f x ≤ v := by
    intro x x0 x1
    have a := N.mono x0
    rw [N.at0] at a
    have b : (q.t * x + q.p) / q.o ≤ q.top := N.mono x1
    by_cases c : (q.t * x + q.p) / q.o = q.top
    · left
      unfold Qs.f
      rw [c]
      have := Int.mul_le_mul_of_nonneg_left x1 (show 0 ≤ q.s by omega)
      omega
    · right
      have hz := dn ((q.t * x + q.p) / q.o) a (by omega)
      have h1 := hz.2.2.2 x (Int.le_refl _)
      have h2 := A.le ((q.t * x + q.p) / q.o) a (by show _ ≤ q.top - 1; omega)
      rw [fq] at h2
      have h3 := Int.mul_le_mul_of_nonneg_left h1 (show 0 ≤ q.s by omega)
      unfold Qs.f
      omega
  unfold raiM
  rw [if_neg (by omega)]
  split
  · rename_i c
    refine ⟨N.L0, Int.le_refl _, ?_, fun x x0 x1 => ?_⟩
    · show 0 + q.s * q.L + q.w * q.top = q.f q.L; rw [fL]; omega
    · show q.f x ≤ 0 + q.s * q.L + q.w * q.top
      rcases all x x0 x1 with h | h <;> omega
  · rename_i c
    refine ⟨yu.1, yu.2.1, ?_, fun x x0 x1 => ?_⟩
    · show 0 + v = q.f (dnX q y); rw [fy]; omega
    · show q.f x ≤ 0 + v
      rcases all x x0 x1 with h | h <;> omega
theorem rai_fx (q : Qs) (fx v y : Int) : raiM q fx v y = (fx + (raiM q 0 v y).1, (raiM q 0 v y).2) := by
  unfold raiM
  split
  · split
    · show (fx, 0) = (fx + 0, 0); rw [Int.add_zero]
    · refine Prod.ext ?_ rfl; show fx + v + q.w = fx + (0 + v + q.w); omega
  · split
    · refine Prod.ext ?_ rfl; show fx + q.s * q.L + q.w * q.top = fx + (0 + q.s * q.L + q.w * q.top); omega
    · refine Prod.ext ?_ rfl; show fx + v = fx + (0 + v); omega
theorem rai_ans {q : Qs} (ho : 0 < q.o) (hL : 0 ≤ q.L) (hb : ¬ Brk q.n) {v y : Int} (A : Ans (lowQ q.n) v y) : Ans q (raiM q.n q.fx v y).1 (raiM q.n q.fx v y).2 := by
  have N := q.nm ho hL
  rw [rai_fx]
  refine Ans.of_n ho ?_
  have ht : q.n.top ≠ 0 := fun z => hb (.inl z)
  have hw : q.n.w ≠ 0 := fun z => hb (.inr (.inl z))
  rcases Int.lt_or_lt_of_ne hw with h | h
  · exact step_neg N ht h (by rcases Int.lt_or_le 0 q.n.s with c | c; exact c; exact absurd (.inr (.inr (.inr ⟨c, h⟩))) hb) A
  · exact step_pos N ht h (by rcases Int.lt_or_le q.n.s 0 with c | c; exact c; exact absurd (.inr (.inr (.inl ⟨c, h⟩))) hb) A
structure QOk (q : Qs) : Prop where
  o0 : 0 < q.o
  L0 : 0 ≤ q.L
  st : Sm 3000 q.t
  sp : Sm 3001 q.p
  so : Sm 3000 q.o
  sL : Sm 3000 q.L
  ss : Sm 6001 q.s
  sw : Sm 6001 q.w
  sg : (Sm 3000 q.s ∧ Sm 3000 q.w) ∨ (0 ≤ q.t ∧ ((0 < q.w ∧ q.s < 0) ∨ (q.w < 0 ∧ 0 < q.s)))
theorem QOk.sn {q : Qs} (h : QOk q) : Sm 9002 q.n.s := by
  show Sm 9002 (q.s + q.w * (q.t / q.o))
  exact Sm.add (h.ss.mono (by decide)) ((h.sw.mul (h.st.div h.o0)).mono (by decide))
theorem between_sm {n : Nat} {a b : Int} (h : Sm n a) (h1 : (a ≤ b ∧ b ≤ 0) ∨ (0 ≤ b ∧ b ≤ a)) : Sm n b := by
  have u := h.lt
  have v := h.gt
  have : (0 : Int) < 2 ^ n := Int.pow_pos (by decide)
  exact sm_of (by omega) (by omega)
theorem QOk.low {q : Qs} (h : QOk q) (hb : ¬ Brk q.n) : QOk (lowQ q.n) ∧ (lowQ q.n).o < q.o := by
  have N := q.nm h.o0 h.L0
  have ht : q.n.top ≠ 0 := fun z => hb (.inl z)
  have hw : q.n.w ≠ 0 := fun z => hb (.inr (.inl z))
  have tp := t_pos N ht
  have t0 := N.top0
  have tL := N.topL
  have hsg : (0 < q.n.w ∧ q.n.s < 0) ∨ (q.n.w < 0 ∧ 0 < q.n.s) := by
    rcases Int.lt_or_lt_of_ne hw with c | c
    · exact .inr ⟨c, by rcases Int.lt_or_le 0 q.n.s with d | d; exact d; exact absurd (.inr (.inr (.inr ⟨d, c⟩))) hb⟩
    · exact .inl ⟨c, by rcases Int.lt_or_le q.n.s 0 with d | d; exact d; exact absurd (.inr (.inr (.inl ⟨d, c⟩))) hb⟩
  have ns : q.n.s = q.s + q.w * (q.t / q.o) := rfl
  have nw : q.n.w = q.w := rfl
  have ss : Sm 6001 q.n.s := by
    rcases h.sg with ⟨a, b⟩ | ⟨a, b⟩
    · rw [ns]
      exact Sm.add (a.mono (by decide)) ((b.mul (h.st.div h.o0)).mono (by decide))
    · have d := Int.ediv_nonneg a (Int.le_of_lt h.o0)
      refine between_sm h.ss ?_
      rw [ns, nw] at hsg
      rw [ns]
      rcases b with ⟨b1, b2⟩ | ⟨b1, b2⟩
      · have := Int.mul_nonneg (Int.le_of_lt b1) d
        omega
      · have := Int.mul_nonpos_of_nonpos_of_nonneg (Int.le_of_lt b1) d
        omega
  have sn : Sm 3000 q.n.t := h.so.le N.t0 (Int.le_of_lt N.t1)
  have pn := N.p0
  have pn1 := N.p1
  have tn1 := N.t1
  have on : q.n.o = q.o := rfl
  have Ln : q.n.L = q.L := rfl
  have so := h.so.lt
  have o0 := h.o0
  have e3 : (2 : Int) ^ 3001 = 2 ^ 3000 * 2 := Int.pow_succ _ _
  have sp : ∀ z : Int, 0 ≤ z → z < 2 * q.o → Sm 3001 z := fun z a b => sm_of (by omega) (by omega)
  have sL : Sm 3000 (q.n.top - 1) := h.sL.le (by omega) (by rw [← Ln]; omega)
  unfold lowQ
  rw [on] at pn1 tn1 ⊢
  split
  · rename_i c
    exact ⟨⟨tp, by show 0 ≤ q.n.top - 1; omega, h.so, sp (q.o - q.n.p + q.n.t - 1) (by omega) (by omega), sn, sL, h.sw, ss, .inr ⟨Int.le_of_lt h.o0, by show (0 < q.n.s ∧ q.n.w < 0) ∨ (q.n.s < 0 ∧ 0 < q.n.w); omega⟩⟩, tn1⟩
  · rename_i c
    exact ⟨⟨tp, by show 0 ≤ q.n.top - 1; omega, h.so, sp (q.o - q.n.p - 1) (by omega) (by omega), sn, sL, h.sw, ss, .inr ⟨Int.le_of_lt h.o0, by show (0 < q.n.s ∧ q.n.w < 0) ∨ (q.n.s < 0 ∧ 0 < q.n.w); omega⟩⟩, tn1⟩
inductive Pth (Q : Qs) : List Qs → Qs → Prop
  | nil : Pth Q [] Q
  | cons {es : List Qs} {q : Qs} : Pth Q es q → QOk q → ¬ Brk q.n → Pth Q (q :: es) (lowQ q.n)
def wyD (q : Qs) : D := .tup [.int q.n.t, .int q.n.p, .int q.n.o, .int q.n.top, .int q.n.s, .int q.n.w]
def peD (q : Qs) : D := .tup [.int q.fx, .int q.L, wyD q]
theorem cmp_pe (n : Nat) : ∀ es : List Qs, cmpL (n + 2) (es.map peD) = true
  | [] => by unfold cmpL; rfl
  | b :: bs => by
    show cmpL (n + 2) (peD b :: bs.map peD) = true
    unfold cmpL
    rw [cmp_pe n bs]
    simp [peD, wyD, cmpD, cmpL]
theorem low_t (q : Qs) : (lowQ q.n).t = q.o ∧ (lowQ q.n).o = q.t % q.o := by unfold lowQ; split <;> exact ⟨rfl, rfl⟩
theorem pth_prod {Q : Qs} : ∀ {es : List Qs} {q : Qs}, Pth Q es q → es ≠ [] → 0 < q.o ∧ q.o < q.t ∧ q.t * q.o * 2 ^ (es.length - 1) < 2 ^ 6000
  | _, _, .nil, h => absurd rfl h
  | _, _, .cons (es := es) (q := q) P ok hb, _ => by
    have l := ok.low hb
    rw [(low_t q).2] at l
    have o1 : 0 < q.t % q.o := by have := l.1.o0; rw [(low_t q).2] at this; exact this
    rw [(low_t q).1, (low_t q).2]
    refine ⟨o1, l.2, ?_⟩
    cases es with
    | nil =>
      show q.o * (q.t % q.o) * 2 ^ 0 < 2 ^ 6000
      have a := ok.so.lt
      have b : q.t % q.o < 2 ^ 3000 := by have := l.2; omega
      have e : (2 : Int) ^ 6000 = 2 ^ 3000 * 2 ^ 3000 := by rw [← Int.pow_add]
      rw [Int.pow_zero, Int.mul_one, e]
      exact Int.mul_lt_mul a (Int.le_of_lt b) o1 (Int.le_of_lt (Int.pow_pos (by decide)))
    | cons e es =>
      obtain ⟨p0, p1, p2⟩ := pth_prod P (by simp)
      have h2 : 2 * (q.t % q.o) ≤ q.t := by
        have a := Int.emod_lt_of_pos q.t p0
        have b : q.t % q.o ≤ q.t - q.o := by
          have e := Int.mul_ediv_add_emod q.t q.o
          have d : 1 ≤ q.t / q.o := Int.le_ediv_of_mul_le p0 (by omega)
          have := Int.mul_le_mul_of_nonneg_left d (Int.le_of_lt p0)
          omega
        omega
      have h3 : q.o * (q.t % q.o) * 2 ≤ q.t * q.o := by
        have := Int.mul_le_mul_of_nonneg_left h2 (Int.le_of_lt p0)
        have e1 : q.o * (2 * (q.t % q.o)) = q.o * (q.t % q.o) * 2 := by rw [Int.mul_left_comm, Int.mul_comm]
        have e2 : q.o * q.t = q.t * q.o := Int.mul_comm _ _
        omega
      have e4 : (2 : Int) ^ ((q :: e :: es).length - 1) = 2 * 2 ^ ((e :: es).length - 1) := by
        show (2 : Int) ^ (es.length + 1) = 2 * 2 ^ es.length
        rw [Int.pow_succ, Int.mul_comm]
      rw [e4, ← Int.mul_assoc]
      refine Int.lt_of_le_of_lt (Int.mul_le_mul_of_nonneg_right h3 (Int.le_of_lt (Int.pow_pos (by decide)))) p2
theorem pth_len {Q : Qs} {es : List Qs} {q : Qs} (h : Pth Q es q) : es.length ≤ 6001 := by
  cases es with
  | nil => simp
  | cons e es =>
    obtain ⟨a, b, c⟩ := pth_prod h (by simp)
    have h1 : 1 ≤ q.t * q.o := by
      have := Int.mul_le_mul (show 1 ≤ q.t by omega) (show 1 ≤ q.o by omega) (by omega) (by omega)
      omega
    have h2 : (2 : Int) ^ ((e :: es).length - 1) ≤ q.t * q.o * 2 ^ ((e :: es).length - 1) := by
      have := Int.mul_le_mul_of_nonneg_right h1 (Int.le_of_lt (show (0 : Int) < 2 ^ ((e :: es).length - 1) from Int.pow_pos (by decide)))
      rw [Int.one_mul] at this
      exact this
    have h3 : (2 : Int) ^ ((e :: es).length - 1) < 2 ^ 6000 := Int.lt_of_le_of_lt h2 c
    have h4 : (e :: es).length - 1 < 6000 := by
      rcases Nat.lt_or_ge ((e :: es).length - 1) 6000 with z | z
      · exact z
      · have := pow_le z
        omega
    omega
theorem rev_snoc {es : List Qs} {q : Qs} : (es.reverse.map peD) ++ [peD q] = (q :: es).reverse.map peD := by simp
end Dl
namespace Dl
open PySem L2
def mxR (g : Int → Int) (l : Int) : Nat → Int
  | 0 => g l
  | k + 1 => mx (mxR g l k) (g (l + (k + 1 : Nat)))
def maxI (g : Int → Int) (l h : Int) : Int := mxR g l (h - l).toNat
structure IsMax (g : Int → Int) (l h v : Int) : Prop where
  ex : ∃ n, l ≤ n ∧ n ≤ h ∧ g n = v
  le : ∀ n, l ≤ n → n ≤ h → g n ≤ v
theorem mxR_ok (g : Int → Int) (l : Int) : ∀ k : Nat, IsMax g l (l + k) (mxR g l k)
  | 0 => ⟨⟨l, Int.le_refl _, by omega, rfl⟩, fun n a b => by
      have : n = l := by omega
      subst this; exact Int.le_refl _⟩
  | k + 1 => by
    have ih := mxR_ok g l k
    have a := mx_ge (mxR g l k) (g (l + (k + 1 : Nat)))
    refine ⟨?_, fun n n1 n2 => ?_⟩
    · rcases mx_or (mxR g l k) (g (l + (k + 1 : Nat))) with e | e
      · obtain ⟨n, n1, n2, e2⟩ := ih.ex
        exact ⟨n, n1, by omega, by show g n = mx _ _; rw [e, e2]⟩
      · exact ⟨l + (k + 1 : Nat), by omega, Int.le_refl _, e.symm⟩
    · show g n ≤ mx _ _
      by_cases c : n ≤ l + k
      · have := ih.le n n1 c; omega
      · have : n = l + (k + 1 : Nat) := by omega
        subst this; omega
theorem maxI_ok {g : Int → Int} {l h : Int} (hl : l ≤ h) : IsMax g l h (maxI g l h) := by
  have := mxR_ok g l (h - l).toNat
  rw [show l + ((h - l).toNat : Nat) = h by omega] at this
  exact this
theorem IsMax.eq {g : Int → Int} {l h v : Int} (hl : l ≤ h) (m : IsMax g l h v) : v = maxI g l h := by
  have a := maxI_ok (g := g) hl
  obtain ⟨n, n1, n2, e⟩ := m.ex
  obtain ⟨k, k1, k2, e2⟩ := a.ex
  have := m.le k k1 k2
  have := a.le n n1 n2
  omega
structure IsArg (g : Int → Int) (l h : Int) (late : Bool) (n : Int) : Prop where
  l0 : l ≤ n
  h0 : n ≤ h
  le : ∀ m, l ≤ m → m ≤ h → g m ≤ g n
  tie : ∀ m, l ≤ m → m ≤ h → g m = g n → if late then m ≤ n else n ≤ m
theorem IsArg.uniq {g : Int → Int} {l h : Int} {b : Bool} {m n : Int} (a : IsArg g l h b m) (c : IsArg g l h b n) : m = n := by
  have e : g m = g n := by
    have := a.le n c.l0 c.h0
    have := c.le m a.l0 a.h0
    omega
  have t1 := a.tie n c.l0 c.h0 e.symm
  have t2 := c.tie m a.l0 a.h0 e
  cases b
  · simp at t1 t2; omega
  · simp at t1 t2; omega
theorem IsArg.val {g : Int → Int} {l h : Int} {b : Bool} {n : Int} (a : IsArg g l h b n) : g n = maxI g l h := IsMax.eq (Int.le_trans a.l0 a.h0) ⟨⟨n, a.l0, a.h0, rfl⟩, a.le⟩
theorem vl_shift (x : Tr) (l n : Int) : (x.1 * n + (x.1 * l + x.2.1)) / x.2.2 = vl x (l + n) := by
  show _ = (x.1 * (l + n) + x.2.1) / x.2.2
  congr 1
  rw [Int.mul_add]; omega
def gq (x : Tr) (s w n : Int) : Int := s * n + w * vl x n
def qOf (x : Tr) (l h s w : Int) : Qs := ⟨x.1, x.1 * l + x.2.1, x.2.2, h - l, s, w⟩
theorem qOf_f (x : Tr) (l h s w y : Int) : (qOf x l h s w).f y = s * y + w * vl x (l + y) := by
  show s * y + w * ((x.1 * y + (x.1 * l + x.2.1)) / x.2.2) = _
  rw [vl_shift]
theorem high_of {x : Tr} {l h s w v y : Int} (A : Ans (qOf x l h s w) v y) : IsMax (gq x s w) l h (v + s * l) := by
  have x0 := A.x0
  have xL : y ≤ h - l := A.xL
  have e := A.vf
  rw [qOf_f] at e
  refine ⟨⟨l + y, by omega, by omega, ?_⟩, fun n n1 n2 => ?_⟩
  · unfold gq; rw [e, Int.mul_add]; omega
  · have := A.le (n - l) (by omega) (by show n - l ≤ h - l; omega)
    rw [qOf_f, show l + (n - l) = n by omega, Int.mul_sub] at this
    unfold gq
    omega
theorem place_of_ok {x : Tr} {l h s w v y : Int} (late : Bool) (hl : l ≤ h) (A : Ans (qOf x l h (s * (h - l + 1) + (if late then 1 else -1)) (w * (h - l + 1))) v y) : IsArg (gq x s w) l h late (l + y) := by
  have x0 := A.x0
  have xL : y ≤ h - l := A.xL
  have e := A.vf
  rw [qOf_f] at e
  have key : ∀ m, l ≤ m → m ≤ h → (gq x s w m - gq x s w (l + y)) * (h - l + 1) ≤ (if late then 1 else -1) * (y - (m - l)) := by
    intro m m1 m2
    have a := A.le (m - l) (by omega) (by show m - l ≤ h - l; omega)
    rw [qOf_f, show l + (m - l) = m by omega, e] at a
    unfold gq
    have e1 : (s * m + w * vl x m - (s * (l + y) + w * vl x (l + y))) * (h - l + 1) = s * (h - l + 1) * (m - l) + w * (h - l + 1) * vl x m - (s * (h - l + 1) * y + w * (h - l + 1) * vl x (l + y)) := by
      generalize h - l + 1 = k
      generalize vl x m = a
      generalize vl x (l + y) = b
      have : s * m + w * a - (s * (l + y) + w * b) = s * (m - l) + w * a - (s * y + w * b) := by
        rw [Int.mul_add, Int.mul_sub]; omega
      rw [this, Int.sub_mul, Int.add_mul, Int.add_mul]
      have c1 : s * (m - l) * k = s * k * (m - l) := Int.mul_right_comm _ _ _
      have c2 : w * a * k = w * k * a := Int.mul_right_comm _ _ _
      have c3 : s * y * k = s * k * y := Int.mul_right_comm _ _ _
      have c4 : w * b * k = w * k * b := Int.mul_right_comm _ _ _
      omega
    rw [e1]
    rw [Int.add_mul, Int.add_mul] at a
    have e2 : (if late = true then (1 : Int) else -1) * (y - (m - l)) = (if late then 1 else -1) * y - (if late then 1 else -1) * (m - l) := Int.mul_sub _ _ _
    omega
  have kp : 0 < h - l + 1 := by omega
  have le : ∀ m, l ≤ m → m ≤ h → gq x s w m ≤ gq x s w (l + y) := by
    intro m m1 m2
    have k := key m m1 m2
    rcases Int.lt_or_le (gq x s w (l + y)) (gq x s w m) with c | c
    · have : 1 * (h - l + 1) ≤ (gq x s w m - gq x s w (l + y)) * (h - l + 1) := Int.mul_le_mul_of_nonneg_right (by omega) (by omega)
      cases late
      · simp only [Bool.false_eq_true, if_false] at k; omega
      · simp only [if_true] at k; omega
    · exact c
  refine ⟨by omega, by omega, le, fun m m1 m2 em => ?_⟩
  have k := key m m1 m2
  rw [em, Int.sub_self, Int.zero_mul] at k
  cases late
  · simp only [Bool.false_eq_true, if_false] at k ⊢; omega
  · simp only [if_true] at k ⊢; omega
def Agr (x y : Tr) (l h : Int) : Prop := ∀ n, l ≤ n → n ≤ h → vl x n = vl y n
theorem vl_iff {y : Tr} {n v : Int} (ho : 1 ≤ y.2.2) : vl y n = v ↔ y.2.2 * v - y.1 * n ≤ y.2.1 ∧ y.2.1 < y.2.2 * v - y.1 * n + y.2.2 := by
  show (y.1 * n + y.2.1) / y.2.2 = v ↔ _
  constructor
  · intro h
    have a := Int.mul_ediv_add_emod (y.1 * n + y.2.1) y.2.2
    have b := Int.emod_nonneg (y.1 * n + y.2.1) (show y.2.2 ≠ 0 by omega)
    have c := Int.emod_lt_of_pos (y.1 * n + y.2.1) (show 0 < y.2.2 by omega)
    rw [h] at a
    omega
  · intro ⟨h1, h2⟩
    exact ((Int.ediv_emod_unique (show 0 < y.2.2 by omega) (r := y.1 * n + y.2.1 - y.2.2 * v)).mpr ⟨by omega, by omega, by omega⟩).1
def loW (x : Tr) (l h u v : Int) : Int := maxI (gq x (-u) v) l h
def hiW (x : Tr) (l h u v : Int) : Int := maxI (gq x u (-v)) l h
theorem loW_ok {x : Tr} {l h u v : Int} (hl : l ≤ h) : (∃ n, l ≤ n ∧ n ≤ h ∧ v * vl x n - u * n = loW x l h u v) ∧ ∀ n, l ≤ n → n ≤ h → v * vl x n - u * n ≤ loW x l h u v := by
  have m := maxI_ok (g := gq x (-u) v) hl
  have e : ∀ n, gq x (-u) v n = v * vl x n - u * n := fun n => by unfold gq; rw [Int.neg_mul]; omega
  refine ⟨?_, fun n a b => by have := m.le n a b; rw [e] at this; exact this⟩
  obtain ⟨n, a, b, c⟩ := m.ex
  exact ⟨n, a, b, by rw [← e]; exact c⟩
theorem hiW_ok {x : Tr} {l h u v : Int} (hl : l ≤ h) : (∃ n, l ≤ n ∧ n ≤ h ∧ u * n - v * vl x n = hiW x l h u v) ∧ ∀ n, l ≤ n → n ≤ h → u * n - v * vl x n ≤ hiW x l h u v := by
  have m := maxI_ok (g := gq x u (-v)) hl
  have e : ∀ n, gq x u (-v) n = u * n - v * vl x n := fun n => by unfold gq; rw [Int.neg_mul]; omega
  refine ⟨?_, fun n a b => by have := m.le n a b; rw [e] at this; exact this⟩
  obtain ⟨n, a, b, c⟩ := m.ex
  exact ⟨n, a, b, by rw [← e]; exact c⟩
theorem agr_iff {x y : Tr} {l h : Int} (hl : l ≤ h) (ho : 1 ≤ y.2.2) : Agr x y l h ↔ loW x l h y.1 y.2.2 ≤ y.2.1 ∧ y.2.1 < y.2.2 - hiW x l h y.1 y.2.2 := by
  obtain ⟨⟨a, a1, a2, ea⟩, la⟩ := loW_ok (x := x) (u := y.1) (v := y.2.2) hl
  obtain ⟨⟨b, b1, b2, eb⟩, lb⟩ := hiW_ok (x := x) (u := y.1) (v := y.2.2) hl
  constructor
  · intro h
    have h1 := (vl_iff ho).mp (h a a1 a2).symm
    have h2 := (vl_iff ho).mp (h b b1 b2).symm
    omega
  · intro ⟨h1, h2⟩ n n1 n2
    have k1 := la n n1 n2
    have k2 := lb n n1 n2
    exact ((vl_iff ho).mpr ⟨by omega, by omega⟩).symm
theorem Agr.symm {x y : Tr} {l h : Int} (a : Agr x y l h) : Agr y x l h := fun n h1 h2 => (a n h1 h2).symm
theorem Agr.trans {x y z : Tr} {l h : Int} (a : Agr x y l h) (b : Agr y z l h) : Agr x z l h := fun n h1 h2 => (a n h1 h2).trans (b n h1 h2)
theorem Agr.refl (x : Tr) (l h : Int) : Agr x x l h := fun _ _ _ => rfl
theorem Agr.sub {x y : Tr} {l h a b : Int} (g : Agr x y l h) (h1 : l ≤ a) (h2 : b ≤ h) : Agr x y a b := fun n n1 n2 => g n (by omega) (by omega)
def Slp (f : Int → Int) (l h u v : Int) : Prop := ∀ a b, l ≤ a → a ≤ h → l ≤ b → b ≤ h → v * (f b - f a - 1) < u * (b - a)
theorem slp_self {x : Tr} {l h : Int} (ho : 1 ≤ x.2.2) : Slp (vl x) l h x.1 x.2.2 := by
  intro a b _ _ _ _
  have h1 := (vl_iff (y := x) (n := a) ho).mp rfl
  have h2 := (vl_iff (y := x) (n := b) ho).mp rfl
  rw [Int.mul_sub, Int.mul_sub, Int.mul_one, Int.mul_sub]
  omega
theorem slp_room {x : Tr} {l h u v : Int} (hl : l ≤ h) (s : Slp (vl x) l h u v) : loW x l h u v < v - hiW x l h u v := by
  obtain ⟨⟨a, a1, a2, ea⟩, _⟩ := loW_ok (x := x) (u := u) (v := v) hl
  obtain ⟨⟨b, b1, b2, eb⟩, _⟩ := hiW_ok (x := x) (u := u) (v := v) hl
  have := s b a b1 b2 a1 a2
  rw [Int.mul_sub, Int.mul_sub, Int.mul_one, Int.mul_sub] at this
  omega
theorem room_slp {x : Tr} {l h u v : Int} (hl : l ≤ h) (r : loW x l h u v < v - hiW x l h u v) : Slp (vl x) l h u v := by
  intro a b a1 a2 b1 b2
  have k1 := (loW_ok (x := x) (u := u) (v := v) hl).2 b b1 b2
  have k2 := (hiW_ok (x := x) (u := u) (v := v) hl).2 a a1 a2
  rw [Int.mul_sub, Int.mul_sub, Int.mul_one, Int.mul_sub]
  omega
theorem agr_of_slp {x : Tr} {l h u v w : Int} (hl : l ≤ h) (hv : 1 ≤ v) : Agr x (u, w, v) l h ↔ loW x l h u v ≤ w ∧ w < v - hiW x l h u v := agr_iff (y := (u, w, v)) hl hv
structure LowS (f : Int → Int) (l h p q : Int) : Prop where
  q1 : 1 ≤ q
  cop : gcdI p q = 1
  ex : ∃ a b, l ≤ a ∧ a < b ∧ b ≤ h ∧ p * (b - a) = q * (f b - f a - 1)
  le : ∀ a b, l ≤ a → a < b → b ≤ h → q * (f b - f a - 1) ≤ p * (b - a)
end Dl
namespace Dl
open PySem L2
theorem cop_dvd {p q r : Int} (h : gcdI p q = 1) (hd : q ∣ p * r) : q ∣ r := by
  have h1 : q.natAbs ∣ p.natAbs * r.natAbs := by
    have := Int.natAbs_dvd_natAbs.mpr hd
    rw [Int.natAbs_mul] at this
    exact this
  have hc : Nat.Coprime q.natAbs p.natAbs := by
    unfold gcdI at h
    have : Nat.gcd p.natAbs q.natAbs = 1 := by omega
    rw [Nat.gcd_comm] at this
    exact this
  exact Int.natAbs_dvd_natAbs.mp (hc.dvd_of_dvd_mul_left h1)
theorem cop_eq {p q p' q' : Int} (h1 : gcdI p q = 1) (h2 : gcdI p' q' = 1) (q1 : 1 ≤ q) (q2 : 1 ≤ q') (e : p * q' = p' * q) : p = p' ∧ q = q' := by
  have a : q ∣ q' := cop_dvd h1 ⟨p', by rw [e, Int.mul_comm]⟩
  have b : q' ∣ q := cop_dvd h2 ⟨p, by rw [← e, Int.mul_comm]⟩
  have c := Int.le_of_dvd (by omega) a
  have d := Int.le_of_dvd (by omega) b
  have e2 : q = q' := by omega
  subst e2
  exact ⟨Int.eq_of_mul_eq_mul_right (by omega) e, rfl⟩
def fr (p q : Int) : Int × Int := (p / gcdI p q, q / gcdI p q)
theorem fr_ok {p q : Int} (hq : 1 ≤ q) : ∃ g, 0 < g ∧ p = g * (fr p q).1 ∧ q = g * (fr p q).2 ∧ 1 ≤ (fr p q).2 ∧ gcdI (fr p q).1 (fr p q).2 = 1 := by
  obtain ⟨g, g0, e1, _, e3, e4⟩ := nrm_of (t := p) (p := 0) hq
  exact ⟨g, g0, e1, e3, e4, nrm_coprime (t := p) (p := 0) hq⟩
theorem fr_cross {p q : Int} (hq : 1 ≤ q) : (fr p q).1 * q = p * (fr p q).2 := by
  obtain ⟨g, g0, e1, e2, _, _⟩ := fr_ok (p := p) hq
  have a : (fr p q).1 * q = (fr p q).1 * (g * (fr p q).2) := by rw [← e2]
  have b : p * (fr p q).2 = g * (fr p q).1 * (fr p q).2 := by rw [← e1]
  rw [a, b, Int.mul_left_comm, Int.mul_assoc]
theorem fr_le {p q : Int} (hq : 1 ≤ q) : (fr p q).2 ≤ q := by
  have := gcdI_pos (a := p) hq
  exact Int.ediv_le_self _ (by omega)
theorem LowS.uniq {f : Int → Int} {l h p q p' q' : Int} (a : LowS f l h p q) (b : LowS f l h p' q') : p = p' ∧ q = q' := by
  obtain ⟨c, d, c1, cd, d1, e⟩ := a.ex
  obtain ⟨c', d', c1', cd', d1', e'⟩ := b.ex
  have h1 := b.le c d c1 cd d1
  have h2 := a.le c' d' c1' cd' d1'
  have q1 := a.q1
  have q2 := b.q1
  refine cop_eq a.cop b.cop q1 q2 ?_
  -- p q' ≤ p' q and back
  have k1 : p * q' ≤ p' * q := by
    have a1 : q' * (p * (d - c)) ≤ q * (p' * (d - c)) := by
      rw [e, Int.mul_left_comm]
      exact Int.mul_le_mul_of_nonneg_left h1 (by omega)
    have a2 : p * q' * (d - c) ≤ p' * q * (d - c) := by
      have x1 : p * q' * (d - c) = q' * (p * (d - c)) := by rw [Int.mul_comm p q', Int.mul_assoc]
      have x2 : p' * q * (d - c) = q * (p' * (d - c)) := by rw [Int.mul_comm p' q, Int.mul_assoc]
      rw [x1, x2]; exact a1
    exact Int.le_of_mul_le_mul_right a2 (by omega)
  have k2 : p' * q ≤ p * q' := by
    have a1 : q * (p' * (d' - c')) ≤ q' * (p * (d' - c')) := by
      rw [e', Int.mul_left_comm]
      exact Int.mul_le_mul_of_nonneg_left h2 (by omega)
    have a2 : p' * q * (d' - c') ≤ p * q' * (d' - c') := by
      have x1 : p' * q * (d' - c') = q * (p' * (d' - c')) := by rw [Int.mul_comm p' q, Int.mul_assoc]
      have x2 : p * q' * (d' - c') = q' * (p * (d' - c')) := by rw [Int.mul_comm p q', Int.mul_assoc]
      rw [x1, x2]; exact a1
    exact Int.le_of_mul_le_mul_right a2 (by omega)
  omega
def fct : Nat → Nat
  | 0 => 1
  | n + 1 => (n + 1) * fct n
theorem fct_dvd : ∀ {n k : Nat}, 1 ≤ k → k ≤ n → k ∣ fct n
  | 0, k, h1, h2 => by omega
  | n + 1, k, h1, h2 => by
    by_cases c : k = n + 1
    · subst c; exact ⟨fct n, rfl⟩
    · obtain ⟨m, e⟩ := fct_dvd (n := n) h1 (by omega)
      exact ⟨(n + 1) * m, by show (n + 1) * fct n = _; rw [e, Nat.mul_left_comm]⟩
theorem fct_pos : ∀ n, 0 < fct n
  | 0 => by decide
  | n + 1 => Nat.mul_pos (Nat.succ_pos n) (fct_pos n)
structure LowP (f : Int → Int) (l h p q : Int) : Prop where
  q1 : 1 ≤ q
  cop : gcdI p q = 1
  qN : q ≤ h - l
  ex : ∃ a b, l ≤ a ∧ a < b ∧ b ≤ h ∧ p * (b - a) = q * (f b - f a - 1)
theorem LowP.lt {f : Int → Int} {l h p q u v : Int} (P : LowP f l h p q) (s : Slp f l h u v) : p * v < u * q := by
  obtain ⟨a, b, a1, ab, b1, e⟩ := P.ex
  have h1 := s a b a1 (by omega) (by omega) b1
  have q1 := P.q1
  have h2 : q * (v * (f b - f a - 1)) < q * (u * (b - a)) := Int.mul_lt_mul_of_pos_left h1 (by omega)
  have h3 : p * v * (b - a) < u * q * (b - a) := by
    have x1 : p * v * (b - a) = q * (v * (f b - f a - 1)) := by
      rw [Int.mul_right_comm, e, Int.mul_assoc, Int.mul_comm _ v]
    have x2 : u * q * (b - a) = q * (u * (b - a)) := by rw [Int.mul_comm u q, Int.mul_assoc]
    rw [x1, x2]; exact h2
  exact Int.lt_of_mul_lt_mul_right h3 (by omega)
def lowM (N : Nat) (u v p q : Int) : Nat := (u * fct N - v * (p * (fct N / q))).toNat
theorem lowM_lt {N : Nat} {u v p q p' q' : Int} (hv : 1 ≤ v) (q1 : 1 ≤ q) (qN : q ≤ N) (q1' : 1 ≤ q') (qN' : q' ≤ N) (up : p * q' < p' * q) (lt : p' * v < u * q') : lowM N u v p' q' < lowM N u v p q := by
  have dv : ∀ z : Int, 1 ≤ z → z ≤ N → ∃ m : Int, (fct N : Int) = z * m ∧ 0 < m ∧ (fct N : Int) / z = m := by
    intro z z1 z2
    obtain ⟨m, e⟩ := fct_dvd (n := N) (k := z.toNat) (by omega) (by omega)
    have ez : (z.toNat : Int) = z := by omega
    have e2 : (fct N : Int) = z * m := by rw [e, Int.natCast_mul, ez]
    have fp := fct_pos N
    have m0 : 0 < (m : Int) := by
      rcases Nat.eq_zero_or_pos m with c | c
      · rw [c, Nat.mul_zero] at e; omega
      · omega
    exact ⟨m, e2, m0, by rw [e2]; exact Int.mul_ediv_cancel_left _ (by omega)⟩
  obtain ⟨m, e, m0, d⟩ := dv q q1 qN
  obtain ⟨m', e', m0', d'⟩ := dv q' q1' qN'
  unfold lowM
  rw [d, d']
  -- p m < p' m' : times q q'
  have h1 : p * m < p' * m' := by
    have a : p * q' * (m * m') < p' * q * (m * m') := Int.mul_lt_mul_of_pos_right up (Int.mul_pos m0 m0')
    have F0 : 0 < (fct N : Int) := by have := fct_pos N; omega
    have b : p * m * (fct N : Int) < p' * m' * (fct N : Int) := by
      have x1 : p * m * (fct N : Int) = p * q' * (m * m') := by rw [e', Int.mul_assoc, Int.mul_assoc]; congr 1; rw [Int.mul_left_comm]
      have x2 : p' * m' * (fct N : Int) = p' * q * (m * m') := by rw [e, Int.mul_assoc, Int.mul_assoc]; congr 1; rw [Int.mul_left_comm, Int.mul_comm m m']
      rw [x1, x2]; exact a
    exact Int.lt_of_mul_lt_mul_right b (by omega)
  have h2 : v * (p * m) < v * (p' * m') := Int.mul_lt_mul_of_pos_left h1 (by omega)
  have h3 : v * (p' * m') < u * fct N := by
    rw [e']
    have a : p' * v * m' < u * q' * m' := Int.mul_lt_mul_of_pos_right lt m0'
    have x1 : v * (p' * m') = p' * v * m' := by rw [← Int.mul_assoc, Int.mul_comm v p']
    have x2 : u * (q' * m') = u * q' * m' := by rw [Int.mul_assoc]
    rw [x1, x2]; exact a
  omega
theorem low_done {x : Tr} {l h p q a b : Int} (P : LowP (vl x) l h p q) (A : IsArg (gq x (-p) q) l h false b) (B : IsArg (gq x p (-q)) l h false a) (c : q * (vl x b - vl x a - 1) ≤ p * (b - a)) : LowS (vl x) l h p q := by
  refine ⟨P.q1, P.cop, P.ex, fun m n m1 mn n1 => ?_⟩
  have h1 := A.le n (by omega) n1
  have h2 := B.le m m1 (by omega)
  unfold gq at h1 h2
  rw [Int.neg_mul, Int.neg_mul] at h1 h2
  rw [Int.mul_sub, Int.mul_sub, Int.mul_sub, Int.mul_one] at c ⊢
  omega
theorem low_next {x : Tr} {l h p q a b : Int} (ho : 1 ≤ x.2.2) (P : LowP (vl x) l h p q) (A : IsArg (gq x (-p) q) l h false b) (B : IsArg (gq x p (-q)) l h false a) (c : ¬ q * (vl x b - vl x a - 1) ≤ p * (b - a)) :
    a < b ∧ LowP (vl x) l h (fr (vl x b - vl x a - 1) (b - a)).1 (fr (vl x b - vl x a - 1) (b - a)).2 ∧ p * (fr (vl x b - vl x a - 1) (b - a)).2 < (fr (vl x b - vl x a - 1) (b - a)).1 * q := by
  have q1 := P.q1
  have ab : a < b := by
    rcases Int.lt_trichotomy a b with z | z | z
    · exact z
    · exfalso
      subst z
      apply c
      rw [Int.sub_self, Int.sub_self, Int.mul_zero]
      omega
    · exfalso
      have lt := P.lt (slp_self (x := x) (l := l) (h := h) ho)
      have h1 := slp_self (x := x) (l := l) (h := h) ho a b B.l0 B.h0 A.l0 A.h0
      -- o (f b - f a - 1) < t (b - a), with b < a
      have h2 : q * (x.2.2 * (vl x b - vl x a - 1)) < q * (x.1 * (b - a)) := Int.mul_lt_mul_of_pos_left h1 (by omega)
      have h3 : x.2.2 * (p * (b - a)) < x.2.2 * (q * (vl x b - vl x a - 1)) := Int.mul_lt_mul_of_pos_left (by omega) (by omega)
      have h4 : x.1 * q * (a - b) < p * x.2.2 * (a - b) := by
        have e1 : q * (x.1 * (b - a)) = -(x.1 * q * (a - b)) := by rw [← Int.neg_sub a b, Int.mul_neg, Int.mul_neg, ← Int.mul_assoc, Int.mul_comm q x.1]
        have e2 : x.2.2 * (p * (b - a)) = -(p * x.2.2 * (a - b)) := by rw [← Int.neg_sub a b, Int.mul_neg, Int.mul_neg, ← Int.mul_assoc, Int.mul_comm x.2.2 p]
        have e3 : q * (x.2.2 * (vl x b - vl x a - 1)) = x.2.2 * (q * (vl x b - vl x a - 1)) := Int.mul_left_comm _ _ _
        omega
      have h5 := Int.lt_of_mul_lt_mul_right h4 (show 0 ≤ a - b by omega)
      omega
  have hk : 1 ≤ b - a := by omega
  obtain ⟨g, g0, e1, e2, f1, f2⟩ := fr_ok (p := vl x b - vl x a - 1) hk
  have fc := fr_cross (p := vl x b - vl x a - 1) hk
  have fl := fr_le (p := vl x b - vl x a - 1) hk
  refine ⟨ab, ⟨f1, f2, by have := A.h0; have := B.l0; omega, ⟨a, b, B.l0, ab, A.h0, by rw [fc, Int.mul_comm]⟩⟩, ?_⟩
  -- p q' < p' q
  have h1 : p * (b - a) < q * (vl x b - vl x a - 1) := by omega
  have h2 : p * (g * (fr (vl x b - vl x a - 1) (b - a)).2) < q * (g * (fr (vl x b - vl x a - 1) (b - a)).1) := by rw [← e1, ← e2]; exact h1
  have h3 : g * (p * (fr (vl x b - vl x a - 1) (b - a)).2) < g * ((fr (vl x b - vl x a - 1) (b - a)).1 * q) := by
    rw [Int.mul_left_comm] at h2
    have : q * (g * (fr (vl x b - vl x a - 1) (b - a)).1) = g * ((fr (vl x b - vl x a - 1) (b - a)).1 * q) := by rw [Int.mul_left_comm, Int.mul_comm q]
    omega
  exact Int.lt_of_mul_lt_mul_left h3 (by omega)
theorem low_start {x : Tr} {l h : Int} (hl : l < h) : LowP (vl x) l h (fr (vl x h - vl x l - 1) (h - l)).1 (fr (vl x h - vl x l - 1) (h - l)).2 := by
  have hk : 1 ≤ h - l := by omega
  obtain ⟨g, g0, e1, e2, f1, f2⟩ := fr_ok (p := vl x h - vl x l - 1) hk
  exact ⟨f1, f2, fr_le hk, ⟨l, h, Int.le_refl _, hl, Int.le_refl _, by rw [fr_cross hk, Int.mul_comm]⟩⟩
structure DOk (x : Tr) (l h : Int) : Prop where
  o1 : 1 ≤ x.2.2
  st : Sm 500 x.1
  sp : Sm 900 x.2.1
  so : Sm 500 x.2.2
  sl : Sm 500 l
  sh : Sm 500 h
  lh : l ≤ h
theorem vl_sm {x : Tr} {a b : Nat} {n : Int} (o1 : 1 ≤ x.2.2) (st : Sm a x.1) (sp : Sm (a + b) x.2.1) (sn : Sm b n) : Sm (a + b + 1) (vl x n) := (Sm.add (st.mul sn) sp).div (by omega)
theorem DOk.val {x : Tr} {l h n : Int} (d : DOk x l h) (h1 : l ≤ n) (h2 : n ≤ h) : Sm 1001 (vl x n) := vl_sm d.o1 d.st (d.sp.mono (by decide)) (sm_between d.sl d.sh h1 h2)
theorem DOk.num {x : Tr} {l h a b : Int} (d : DOk x l h) (a1 : l ≤ a) (a2 : a ≤ h) (b1 : l ≤ b) (b2 : b ≤ h) : Sm 1003 (vl x b - vl x a - 1) :=
  Sm.sub (a := 1002) (Sm.sub (d.val b1 b2) (d.val a1 a2)) ((show Sm 1 1 by decide).mono (by decide))
theorem DOk.neg {x : Tr} {l h : Int} (d : DOk x l h) (sp : Sm 500 x.2.1) : DOk (negT x) l h :=
  ⟨d.o1, d.st.neg, (Sm.sub (a := 501) (Sm.sub d.so ((show Sm 1 1 by decide).mono (by decide))) (sp.mono (by decide))).mono (by decide), d.so, d.sl, d.sh, d.lh⟩
end Dl
namespace Dl
open PySem L2
structure Iv where
  p1 : Int
  q1 : Int
  p2 : Int
  q2 : Int
structure InI (I : Iv) (u v : Int) : Prop where
  v1 : 1 ≤ v
  lo : I.p1 * v < u * I.q1
  hi : u * I.q2 < I.p2 * v
structure SB (I : Iv) (u v : Int) : Prop where
  mem : InI I u v
  den : ∀ u' v', InI I u' v' → v ≤ v'
  num : 0 ≤ I.p1 → ∀ u' v', InI I u' v' → u ≤ u'
  one : ∀ u', InI I u' v → u ≤ u'
structure IOk (I : Iv) : Prop where
  q1 : 1 ≤ I.q1
  q2 : 1 ≤ I.q2
  lt : I.p1 * I.q2 < I.p2 * I.q1
def Iv.w (I : Iv) : Int := I.p1 / I.q1
def Iv.lt (I : Iv) : Int := I.p1 - I.w * I.q1
def Iv.ht (I : Iv) : Int := I.p2 - I.w * I.q2
def Iv.inn (I : Iv) : Iv := ⟨I.q2, I.ht, I.q1, I.lt⟩
section
variable {I : Iv} (k : IOk I)
include k
theorem IOk.fl : I.p1 = I.w * I.q1 + I.lt ∧ 0 ≤ I.lt ∧ I.lt < I.q1 := by
  have q1 := k.q1
  have a := Int.mul_ediv_add_emod I.p1 I.q1
  have b := Int.emod_nonneg I.p1 (show I.q1 ≠ 0 by omega)
  have c := Int.emod_lt_of_pos I.p1 (show 0 < I.q1 by omega)
  have e : I.w * I.q1 = I.q1 * (I.p1 / I.q1) := Int.mul_comm _ _
  unfold Iv.lt
  omega
theorem IOk.cross : I.lt * I.q2 < I.ht * I.q1 := by
  have h := k.lt
  unfold Iv.lt Iv.ht
  rw [Int.sub_mul, Int.sub_mul, Int.mul_right_comm I.w I.q1 I.q2]
  omega
theorem IOk.ht0 : 0 < I.ht := by
  have h := k.cross
  have f := k.fl
  have q1 := k.q1
  have q2 := k.q2
  have a := Int.mul_nonneg f.2.1 (show 0 ≤ I.q2 by omega)
  rcases Int.lt_or_le 0 I.ht with c | c
  · exact c
  · have := Int.mul_nonpos_of_nonpos_of_nonneg c (show 0 ≤ I.q1 by omega)
    omega
theorem w0 (h : 0 ≤ I.p1) : 0 ≤ I.w := Int.ediv_nonneg h (by have := k.q1; omega)
theorem sb_one (h : (I.w + 1) * I.q2 < I.p2) : SB I (I.w + 1) 1 := by
  have f := k.fl
  have q1 := k.q1
  refine ⟨⟨Int.le_refl _, ?_, by rw [Int.mul_one]; exact h⟩, fun u' v' m => m.v1, fun p0 u' v' m => ?_, fun u' m => ?_⟩
  · rw [Int.mul_one, Int.add_mul, Int.one_mul]; omega
  · have a := m.lo
    have b : I.p1 * 1 ≤ I.p1 * v' := Int.mul_le_mul_of_nonneg_left m.v1 p0
    have c : I.w * I.q1 < u' * I.q1 := by omega
    have := Int.lt_of_mul_lt_mul_right c (by omega)
    omega
  · have a := m.lo
    have c : I.w * I.q1 < u' * I.q1 := by omega
    have := Int.lt_of_mul_lt_mul_right c (by omega)
    omega
theorem sb_zero (h : I.lt = 0) : SB I (1 + I.w * (I.q2 / I.ht + 1)) (I.q2 / I.ht + 1) := by
  have f := k.fl
  have q1 := k.q1
  have q2 := k.q2
  have h0 := k.ht0
  have e1 : I.p1 = I.w * I.q1 := by omega
  have e2 : I.p2 = I.ht + I.w * I.q2 := by unfold Iv.ht; omega
  have d0 := Int.ediv_nonneg (show 0 ≤ I.q2 by omega) (show 0 ≤ I.ht by omega)
  have hv : I.q2 < I.ht * (I.q2 / I.ht + 1) := by
    have a := Int.mul_ediv_add_emod I.q2 I.ht
    have b := Int.emod_lt_of_pos I.q2 h0
    rw [Int.mul_add, Int.mul_one]; omega
  generalize hv0 : I.q2 / I.ht + 1 = v at hv
  have bound : ∀ u' v', InI I u' v' → I.w * v' + 1 ≤ u' ∧ v ≤ v' := by
    intro u' v' m
    have a := m.lo
    have b := m.hi
    have v1 := m.v1
    rw [e1, Int.mul_right_comm] at a
    have c := Int.lt_of_mul_lt_mul_right a (show 0 ≤ I.q1 by omega)
    refine ⟨by omega, ?_⟩
    rw [e2, Int.add_mul, Int.mul_right_comm] at b
    have d : (u' - I.w * v') * I.q2 < I.ht * v' := by rw [Int.sub_mul]; omega
    have g : 1 * I.q2 ≤ (u' - I.w * v') * I.q2 := Int.mul_le_mul_of_nonneg_right (by omega) (by omega)
    have hh : I.q2 < v' * I.ht := by rw [Int.mul_comm v']; omega
    have := Int.ediv_lt_of_lt_mul h0 hh
    omega
  refine ⟨⟨by omega, ?_, ?_⟩, fun u' v' m => (bound u' v' m).2, fun p0 u' v' m => ?_, fun u' m => by have := (bound u' v m).1; omega⟩
  · rw [e1, Int.add_mul, Int.one_mul, Int.mul_right_comm]; omega
  · rw [e2, Int.add_mul, Int.one_mul, Int.add_mul, Int.mul_right_comm]; omega
  · have b := bound u' v' m
    have := Int.mul_le_mul_of_nonneg_left b.2 (w0 k p0)
    omega
theorem inn_ok (h : 0 < I.lt) : IOk I.inn := ⟨k.ht0, h, by show I.q2 * I.lt < I.q1 * I.ht; have := k.cross; rw [Int.mul_comm I.q2, Int.mul_comm I.q1]; exact this⟩
theorem in_inn {u v : Int} (m : InI I u v) : InI I.inn v (u - I.w * v) := by
  have f := k.fl
  have q1 := k.q1
  have a := m.lo
  have b := m.hi
  have v1 := m.v1
  have e2 : I.p2 = I.ht + I.w * I.q2 := by unfold Iv.ht; omega
  have c : v * I.lt < I.q1 * (u - I.w * v) := by
    rw [f.1, Int.add_mul, Int.mul_right_comm] at a
    rw [Int.mul_sub, Int.mul_comm v I.lt, Int.mul_comm I.q1 u, Int.mul_comm I.q1 (I.w * v)]
    omega
  have d : I.q2 * (u - I.w * v) < v * I.ht := by
    rw [e2, Int.add_mul, Int.mul_right_comm] at b
    rw [Int.mul_sub, Int.mul_comm I.q2 u, Int.mul_comm I.q2 (I.w * v), Int.mul_comm v I.ht]
    omega
  refine ⟨?_, d, c⟩
  have g := Int.mul_nonneg (show 0 ≤ v by omega) f.2.1
  rcases Int.lt_or_le 0 (u - I.w * v) with z | z
  · omega
  · have := Int.mul_nonpos_of_nonneg_of_nonpos (show 0 ≤ I.q1 by omega) z
    omega
theorem sb_step {c d : Int} (s : SB I.inn c d) : SB I (d + I.w * c) c := by
  have f := k.fl
  have q2 := k.q2
  have h0 := k.ht0
  have e2 : I.p2 = I.ht + I.w * I.q2 := by unfold Iv.ht; omega
  have m1 : I.q2 * d < c * I.ht := s.mem.lo
  have m2 : c * I.lt < I.q1 * d := s.mem.hi
  have d1 := s.mem.v1
  have c1 : 1 ≤ c := by
    have := Int.mul_pos (show 0 < I.q2 by omega) (show 0 < d by omega)
    rcases Int.lt_or_le 0 c with z | z
    · omega
    · have := Int.mul_nonpos_of_nonpos_of_nonneg z (show 0 ≤ I.ht by omega)
      omega
  refine ⟨⟨c1, ?_, ?_⟩, fun u' v' m => ?_, fun p0 u' v' m => ?_, fun u' m => by have := s.den _ _ (in_inn k m); omega⟩
  · rw [f.1, Int.add_mul, Int.add_mul, Int.mul_right_comm, Int.mul_comm I.lt, Int.mul_comm d]; omega
  · rw [e2, Int.add_mul, Int.add_mul, Int.mul_right_comm I.w c, Int.mul_comm d, Int.mul_comm I.ht]; omega
  · exact s.num (by show 0 ≤ I.q2; omega) _ _ (in_inn k m)
  · have a := s.num (by show 0 ≤ I.q2; omega) _ _ (in_inn k m)
    have b := s.den _ _ (in_inn k m)
    have := Int.mul_le_mul_of_nonneg_left a (w0 k p0)
    omega
end
def unf : List Int → Int × Int → Int × Int
  | [], r => r
  | w :: ws, r => unf ws (r.2 + w * r.1, r.1)
structure Lv where
  I : Iv
  a : Int
  b : Int
structure LOk (L : Lv) : Prop where
  ok : IOk L.I
  mem : InI L.I L.a L.b
  s1 : Sm 1003 L.I.p1
  s2 : Sm 1003 L.I.p2
  t1 : Sm 501 L.I.q1
  t2 : Sm 501 L.I.q2
  sb : Sm 501 L.b
def Lv.nx (L : Lv) : Lv := ⟨L.I.inn, L.b, L.a - L.I.w * L.b⟩
structure Dp (L : Lv) : Prop where
  pa : 0 < L.a
  sa : Sm 501 L.a
  p1 : 0 < L.I.p1
theorem LOk.down {L : Lv} (h : LOk L) (hl : 0 < L.I.lt) (hh : L.I.p2 ≤ (L.I.w + 1) * L.I.q2) : LOk L.nx ∧ Dp L.nx ∧ L.nx.I.q1 + L.nx.I.q2 < L.I.q1 + L.I.q2 ∧ L.nx.b ≤ L.nx.a ∧ 0 < L.nx.b := by
  have f := h.ok.fl
  have h0 := h.ok.ht0
  have q1 := h.ok.q1
  have q2 := h.ok.q2
  have hq : L.I.ht ≤ L.I.q2 := by unfold Iv.ht; rw [Int.add_mul, Int.one_mul] at hh; omega
  have m := in_inn h.ok h.mem
  have b1 : 0 < L.a - L.I.w * L.b := by have := m.v1; omega
  have hb := h.mem.v1
  have ba : L.a - L.I.w * L.b ≤ L.b := by
    -- q2 (a - w b) < b ht ≤ b q2
    have x1 : L.I.q2 * (L.a - L.I.w * L.b) < L.b * L.I.ht := m.lo
    have x2 := Int.mul_le_mul_of_nonneg_left hq (show 0 ≤ L.b by omega)
    rw [Int.mul_comm L.b L.I.q2] at x2
    have := Int.lt_of_mul_lt_mul_left (show L.I.q2 * (L.a - L.I.w * L.b) < L.I.q2 * L.b by omega) (by omega)
    omega
  refine ⟨⟨inn_ok h.ok hl, m, h.t2.mono (by decide), h.t1.mono (by decide), h.t2.le (by show 0 ≤ L.I.ht; omega) hq, h.t1.le (by show 0 ≤ L.I.lt; omega) (by show L.I.lt ≤ L.I.q1; omega), h.sb.le (by show 0 ≤ L.a - L.I.w * L.b; omega) ba⟩, ⟨by show 0 < L.b; omega, h.sb, by show 0 < L.I.q2; omega⟩, ?_, ba, b1⟩
  show L.I.ht + L.I.lt < L.I.q1 + L.I.q2
  omega
inductive LP (L0 : Lv) : List Int → Lv → Prop
  | nil : LP L0 [] L0
  | cons {ws : List Int} {L : Lv} : LP L0 ws L → LOk L → 0 < L.I.lt → L.I.p2 ≤ (L.I.w + 1) * L.I.q2 → LP L0 (L.I.w :: ws) L.nx
theorem LP.sb {L0 : Lv} : ∀ {ws : List Int} {L : Lv} {c d : Int}, LP L0 ws L → SB L.I c d → SB L0.I (unf ws (c, d)).1 (unf ws (c, d)).2
  | _, _, _, _, .nil, s => s
  | _, _, c, d, .cons (ws := ws) (L := L) P ok hl hh, s => by
    have z := LP.sb P (sb_step ok.ok s)
    exact z
theorem SB.uniq {I : Iv} {u v u' v' : Int} (a : SB I u v) (b : SB I u' v') : u = u' ∧ v = v' := by
  have h1 := a.den _ _ b.mem
  have h2 := b.den _ _ a.mem
  have e : v = v' := by omega
  subst e
  have h3 := a.one _ b.mem
  have h4 := b.one _ a.mem
  exact ⟨by omega, rfl⟩
def UfOk : List Int → Int × Int → Prop
  | [], _ => True
  | w :: ws, r => IntMulOk w r.1 ∧ UfOk ws (r.2 + w * r.1, r.1)
theorem LP.uok {L0 : Lv} : ∀ {ws : List Int} {L : Lv} {c d : Int}, LP L0 ws L → SB L.I c d → UfOk ws (c, d)
  | _, _, _, _, .nil, _ => trivial
  | _, _, c, d, .cons (ws := ws) (L := L) P ok hl hh, s => by
    have dn := ok.down hl hh
    have q2 := ok.ok.q2
    have s2 := sb_step ok.ok s
    have c1 : 0 ≤ c := by have := s2.mem.v1; omega
    have c2 : c ≤ L.b := s.num (by show 0 ≤ L.I.q2; omega) _ _ dn.1.mem
    exact ⟨mul_ok (a := 1003) (b := 501) (ok.s1.div (by have := ok.ok.q1; omega)) (ok.sb.le c1 c2) (by decide), LP.uok P s2⟩
theorem LP.dp {L0 : Lv} {ws : List Int} {L : Lv} (P : LP L0 ws L) (h : ws ≠ []) : Dp L ∧ L.b ≤ L.a ∧ 0 < L.b := by
  cases P with
  | nil => exact absurd rfl h
  | cons P ok hl hh => exact ⟨(ok.down hl hh).2.1, (ok.down hl hh).2.2.2⟩
theorem nx_w {L2 : Lv} (ok2 : LOk L2) (hh2 : L2.I.p2 ≤ (L2.I.w + 1) * L2.I.q2) : 1 ≤ L2.nx.I.w := by
  show 1 ≤ L2.I.q2 / L2.I.ht
  have h0 := ok2.ok.ht0
  have hq : L2.I.ht ≤ L2.I.q2 := by unfold Iv.ht; rw [Int.add_mul, Int.one_mul] at hh2; omega
  exact Int.le_ediv_of_mul_le h0 (by omega)
theorem LP.w1 {L0 : Lv} {ws : List Int} {L : Lv} (P : LP L0 ws L) (h : ws ≠ []) : 1 ≤ L.I.w := by
  cases P with
  | nil => exact absurd rfl h
  | cons P ok hl hh => exact nx_w ok hh
theorem LP.prod {L0 : Lv} : ∀ {ws : List Int} {L : Lv}, LP L0 ws L → ws ≠ [] → L.a * L.b * 2 ^ (ws.length - 1) < 2 ^ 1002
  | _, _, .nil, h => absurd rfl h
  | _, _, .cons (ws := ws) (L := L) P ok hl hh, _ => by
    have dn := ok.down hl hh
    have b1 : 0 < L.a - L.I.w * L.b := dn.2.2.2.2
    have ba : L.a - L.I.w * L.b ≤ L.b := dn.2.2.2.1
    have hb := ok.mem.v1
    show L.b * (L.a - L.I.w * L.b) * 2 ^ ws.length < _
    cases ws with
    | nil =>
      show L.b * (L.a - L.I.w * L.b) * 2 ^ 0 < _
      rw [Int.pow_zero, Int.mul_one]
      have a := ok.sb.lt
      have e : (2 : Int) ^ 1002 = 2 ^ 501 * 2 ^ 501 := by rw [← Int.pow_add]
      rw [e]
      exact Int.mul_lt_mul a (by omega) b1 (Int.le_of_lt (Int.pow_pos (by decide)))
    | cons w ws =>
      have ih := LP.prod P (by simp)
      have dp := P.dp (by simp)
      -- a >= b, so a - w b <= a / 2
      have w1 : 1 ≤ L.I.w := by
        -- p1 >= q1 at a deeper level
        exact P.w1 (by simp)
      have h2 : 2 * (L.a - L.I.w * L.b) ≤ L.a := by
        have := Int.mul_le_mul_of_nonneg_right w1 (show 0 ≤ L.b by omega)
        omega
      have h3 : L.b * (L.a - L.I.w * L.b) * 2 ≤ L.a * L.b := by
        have := Int.mul_le_mul_of_nonneg_left h2 (show 0 ≤ L.b by omega)
        have e1 : L.b * (2 * (L.a - L.I.w * L.b)) = L.b * (L.a - L.I.w * L.b) * 2 := by rw [Int.mul_left_comm, Int.mul_comm]
        have e2 : L.b * L.a = L.a * L.b := Int.mul_comm _ _
        omega
      have e4 : (2 : Int) ^ (w :: ws).length = 2 * 2 ^ ((w :: ws).length - 1) := by
        show (2 : Int) ^ (ws.length + 1) = 2 * 2 ^ ws.length
        rw [Int.pow_succ, Int.mul_comm]
      rw [e4, ← Int.mul_assoc]
      exact Int.lt_of_le_of_lt (Int.mul_le_mul_of_nonneg_right h3 (Int.le_of_lt (Int.pow_pos (by decide)))) ih
theorem LP.len {L0 : Lv} {ws : List Int} {L : Lv} (P : LP L0 ws L) : ws.length ≤ 1003 := by
  cases ws with
  | nil => simp
  | cons w ws =>
    have c := P.prod (by simp)
    obtain ⟨dp, ba, b0⟩ := P.dp (by simp)
    have h1 : 1 ≤ L.a * L.b := by
      have := Int.mul_le_mul (show 1 ≤ L.a by have := dp.pa; omega) (show 1 ≤ L.b by omega) (by omega) (by have := dp.pa; omega)
      omega
    have h2 : (2 : Int) ^ ((w :: ws).length - 1) ≤ L.a * L.b * 2 ^ ((w :: ws).length - 1) := by
      have := Int.mul_le_mul_of_nonneg_right h1 (Int.le_of_lt (show (0 : Int) < 2 ^ ((w :: ws).length - 1) from Int.pow_pos (by decide)))
      rw [Int.one_mul] at this
      exact this
    have h3 : (2 : Int) ^ ((w :: ws).length - 1) < 2 ^ 1002 := Int.lt_of_le_of_lt h2 c
    have h4 : (w :: ws).length - 1 < 1002 := by
      rcases Nat.lt_or_ge ((w :: ws).length - 1) 1002 with z | z
      · exact z
      · have := pow_le z
        omega
    omega
end Dl
namespace Dl
open PySem L2
theorem LowS.toP {f : Int → Int} {l h p q : Int} (a : LowS f l h p q) : LowP f l h p q := by
  refine ⟨a.q1, a.cop, ?_, a.ex⟩
  obtain ⟨c, d, c1, cd, d1, e⟩ := a.ex
  have := Int.le_of_dvd (by omega) (cop_dvd a.cop ⟨_, e⟩)
  omega
theorem low_sm {x : Tr} {l h p q : Int} (d : DOk x l h) (P : LowP (vl x) l h p q) : Sm 1003 p ∧ Sm 501 q := by
  have q1 := P.q1
  have sq : Sm 501 q := (Sm.sub d.sh d.sl).le (by omega) P.qN
  refine ⟨?_, sq⟩
  obtain ⟨a, b, a1, ab, b1, e⟩ := P.ex
  have s1 := d.num a1 (by omega) (by omega) b1
  have hd : q ∣ p * (b - a) := ⟨_, e⟩
  have hq := cop_dvd P.cop hd
  obtain ⟨k, hk⟩ := hq
  rw [hk, Int.mul_left_comm] at e
  have e2 : p * k = vl x b - vl x a - 1 := Int.eq_of_mul_eq_mul_left (show q ≠ 0 by omega) e
  have k1 : 1 ≤ k := by
    rcases Int.lt_or_le 0 k with c | c
    · omega
    · have := Int.mul_nonpos_of_nonneg_of_nonpos (show 0 ≤ q by omega) c
      omega
  unfold Sm at s1 ⊢
  rw [← e2, Int.natAbs_mul] at s1
  have : p.natAbs * 1 ≤ p.natAbs * k.natAbs := Nat.mul_le_mul_left _ (by omega)
  omega
theorem DOk.ng {x : Tr} {l h : Int} (d : DOk x l h) (sp : Sm 898 x.2.1) : DOk (negT x) l h :=
  ⟨d.o1, d.st.neg, Sm.sub (a := 899) ((Sm.sub (a := 500) d.so ((show Sm 1 1 by decide).mono (by decide))).mono (by decide)) (sp.mono (by decide)) |>.mono (by decide), d.so, d.sl, d.sh, d.lh⟩
def HiS (x : Tr) (l h p q : Int) : Prop := LowS (vl (negT x)) l h (-p) q
structure Slo (x : Tr) (l h : Int) (I : Iv) : Prop where
  lo : LowS (vl x) l h I.p1 I.q1
  hi : HiS x l h I.p2 I.q2
theorem Slo.uniq {x : Tr} {l h : Int} {I J : Iv} (a : Slo x l h I) (b : Slo x l h J) : I = J := by
  have h1 := a.lo.uniq b.lo
  have h2 := LowS.uniq a.hi b.hi
  obtain ⟨p1, q1, p2, q2⟩ := I
  obtain ⟨p1', q1', p2', q2'⟩ := J
  have e1 : p1 = p1' := h1.1
  have e2 : q1 = q1' := h1.2
  have e3 : -p2 = -p2' := h2.1
  have e4 : q2 = q2' := h2.2
  have e5 : p2 = p2' := by omega
  rw [e1, e2, e4, e5]
theorem Slo.self {x : Tr} {l h : Int} {I : Iv} (a : Slo x l h I) (o1 : 1 ≤ x.2.2) : InI I x.1 x.2.2 := by
  have h1 := a.lo.toP.lt (slp_self (x := x) (l := l) (h := h) o1)
  have h2 := LowP.lt (LowS.toP a.hi) (slp_self (x := negT x) (l := l) (h := h) o1)
  have h3 : -I.p2 * x.2.2 < -x.1 * I.q2 := h2
  rw [Int.neg_mul, Int.neg_mul] at h3
  exact ⟨o1, h1, by omega⟩
theorem Slo.ok {x : Tr} {l h : Int} {I : Iv} (a : Slo x l h I) (o1 : 1 ≤ x.2.2) : IOk I := by
  have m := a.self o1
  have q1 := a.lo.q1
  have q2 : 1 ≤ I.q2 := LowS.q1 a.hi
  refine ⟨q1, q2, ?_⟩
  -- p1 o q2 < t q1 q2 < p2 o q1
  have h1 := Int.mul_lt_mul_of_pos_right m.lo (show 0 < I.q2 by omega)
  have h2 := Int.mul_lt_mul_of_pos_right m.hi (show 0 < I.q1 by omega)
  have h3 : I.p1 * I.q2 * x.2.2 < I.p2 * I.q1 * x.2.2 := by
    rw [Int.mul_right_comm, Int.mul_right_comm I.p2]
    have : x.1 * I.q1 * I.q2 = x.1 * I.q2 * I.q1 := Int.mul_right_comm _ _ _
    omega
  exact Int.lt_of_mul_lt_mul_right h3 (by omega)
theorem Slo.lok {x : Tr} {l h : Int} {I : Iv} (a : Slo x l h I) (d : DOk x l h) (sp : Sm 898 x.2.1) : LOk ⟨I, x.1, x.2.2⟩ := by
  obtain ⟨s1, s2⟩ := low_sm d a.lo.toP
  obtain ⟨s3, s4⟩ := low_sm (d.ng sp) (LowS.toP a.hi)
  have s5 := s3.neg
  rw [Int.neg_neg] at s5
  exact ⟨a.ok d.o1, a.self d.o1, s1, s5, s2, s4, d.so.mono (by decide)⟩
theorem sb_sm {L : Lv} {u v : Int} (k : LOk L) (s : SB L.I u v) : Sm 1505 u ∧ Sm 501 v := by
  have v1 := s.mem.v1
  have sv : Sm 501 v := k.sb.le (by omega) (s.den _ _ k.mem)
  refine ⟨?_, sv⟩
  have q1 := k.ok.q1
  have q2 := k.ok.q2
  have s1 := k.s1.mul sv
  have s2 := k.s2.mul sv
  have a := s.mem.lo
  have b := s.mem.hi
  -- |u| <= max |p1 v| |p2 v|
  unfold Sm at s1 s2 ⊢
  have e : (2 : Nat) ^ 1505 = 2 * 2 ^ (1003 + 501) := by rw [Nat.pow_succ, Nat.mul_comm]
  rcases Int.lt_or_le u 0 with z | z
  · have := Int.mul_le_mul_of_nonpos_left (show u ≤ 0 by omega) q1
    omega
  · have := Int.mul_le_mul_of_nonneg_left q2 z
    omega
end Dl
namespace Dl
open PySem L2
theorem bezN (a b : Nat) : ∃ x y : Int, (a : Int) * x + (b : Int) * y = (Nat.gcd a b : Nat) := by
  induction a, b using Nat.gcd.induction with
  | H0 n => exact ⟨0, 1, by simp⟩
  | H1 m n hm ih =>
    obtain ⟨x, y, e⟩ := ih
    refine ⟨y - (n / m : Nat) * x, x, ?_⟩
    rw [Nat.gcd_rec, ← e]
    have d : (n : Int) = (m : Int) * (n / m : Nat) + (n % m : Nat) := by
      have := Nat.div_add_mod n m
      rw [← Int.natCast_mul, ← Int.natCast_add, this]
    have e1 : (m : Int) * (y - (n / m : Nat) * x) = m * y - m * (n / m : Nat) * x := by rw [Int.mul_sub, Int.mul_assoc]
    have e2 : (n : Int) * x = m * (n / m : Nat) * x + (n % m : Nat) * x := by
      conv => lhs; rw [d]
      rw [Int.add_mul]
    rw [e1, e2]
    omega
theorem bezI {p q : Int} (h : gcdI p q = 1) : ∃ x y : Int, p * x + q * y = 1 := by
  obtain ⟨x, y, e⟩ := bezN p.natAbs q.natAbs
  have e1 : ((Nat.gcd p.natAbs q.natAbs : Nat) : Int) = 1 := h
  rw [e1] at e
  have s : ∀ (a z : Int), ∃ z', a * z' = (a.natAbs : Int) * z := fun a z => by
    rcases Int.natAbs_eq a with c | c
    · exact ⟨z, by rw [← c]⟩
    · refine ⟨-z, ?_⟩
      have : (a.natAbs : Int) = -a := by omega
      rw [this, Int.mul_neg, Int.neg_mul]
  obtain ⟨x', ex⟩ := s p x
  obtain ⟨y', ey⟩ := s q y
  exact ⟨x', y', by rw [ex, ey]; exact e⟩
theorem solve {u v : Int} (hv : 1 ≤ v) (h : gcdI u v = 1) (c : Int) : ∃ n, 0 ≤ n ∧ n < v ∧ ∃ j, u * n = c + v * j := by
  obtain ⟨x, y, e⟩ := bezI h
  refine ⟨(x * c) % v, Int.emod_nonneg _ (by omega), Int.emod_lt_of_pos _ (by omega), -(y * c) - u * (x * c / v), ?_⟩
  have d := Int.mul_ediv_add_emod (x * c) v
  have e1 : u * (x * c) = c - v * (y * c) := by
    have : (u * x + v * y) * c = c := by rw [e, Int.one_mul]
    rw [Int.add_mul, Int.mul_assoc, Int.mul_assoc] at this
    omega
  have e2 : x * c % v = x * c - v * (x * c / v) := by omega
  rw [e2, Int.mul_sub, e1, Int.mul_sub, Int.mul_neg, Int.mul_left_comm u v]
  omega
end Dl
namespace Dl
def rs (u w v n : Int) : Int := (u * n + w) % v
theorem rs_rng {u w v : Int} (hv : 1 ≤ v) (n : Int) : 0 ≤ rs u w v n ∧ rs u w v n < v := ⟨Int.emod_nonneg _ (by omega), Int.emod_lt_of_pos _ (by omega)⟩
theorem rs_iff {u w v n k : Int} (k0 : 0 ≤ k) (kv : k < v) : rs u w v n = k ↔ ∃ j, u * n + w = k + v * j := by
  constructor
  · intro h
    refine ⟨(u * n + w) / v, ?_⟩
    have := Int.mul_ediv_add_emod (u * n + w) v
    unfold rs at h
    omega
  · rintro ⟨j, e⟩
    unfold rs
    rw [e, Int.add_mul_emod_self_left]
    exact Int.emod_eq_of_lt k0 kv
theorem rs_go {u w v n m k : Int} (hv : 1 ≤ v) (k0 : 0 ≤ k) (kv : k < v) (h : ∃ j, u * (m - n) = k - rs u w v n + v * j) : rs u w v m = k := by
  obtain ⟨j, e⟩ := h
  obtain ⟨i, ei⟩ := (rs_iff (u := u) (w := w) (n := n) (rs_rng (u := u) (w := w) hv n).1 (rs_rng hv n).2).mp rfl
  refine (rs_iff k0 kv).mpr ⟨i + j, ?_⟩
  rw [Int.mul_sub] at e
  rw [Int.mul_add]
  omega
theorem mul_stp {u e v j c : Int} (h : u * e = c + v * j) (t : Int) : u * (t * e) = t * c + v * (t * j) := by
  have : t * (u * e) = t * c + t * (v * j) := by rw [h, Int.mul_add]
  rw [Int.mul_left_comm, this, Int.mul_left_comm t v]
theorem rs_up {u w v e j a b : Int} (hv : 1 ≤ v) (e0 : 0 ≤ e) (h : u * e = 1 + v * j) (k : e * (v + rs u w v b - rs u w v a) ≤ b - a) : ∃ n, a ≤ n ∧ n + e ≤ b ∧ rs u w v n = v - 1 ∧ rs u w v (n + e) = 0 := by
  obtain ⟨a0, a1⟩ := rs_rng (u := u) (w := w) hv a
  obtain ⟨b0, b1⟩ := rs_rng (u := u) (w := w) hv b
  have t0 : 0 ≤ (v - 1 - rs u w v a) * e := Int.mul_nonneg (by omega) e0
  have m1 := mul_stp h (v - 1 - rs u w v a)
  refine ⟨a + (v - 1 - rs u w v a) * e, by omega, ?_, ?_, ?_⟩
  · have : (v - 1 - rs u w v a + 1) * e ≤ (v + rs u w v b - rs u w v a) * e := Int.mul_le_mul_of_nonneg_right (by omega) e0
    rw [Int.add_mul, Int.one_mul] at this
    rw [Int.mul_comm e] at k
    omega
  · exact rs_go hv (n := a) (by omega) (by omega) ⟨(v - 1 - rs u w v a) * j, by rw [Int.add_comm a, Int.add_sub_cancel]; omega⟩
  · refine rs_go hv (n := a) (by omega) (by omega) ⟨(v - 1 - rs u w v a) * j + j + 1, ?_⟩
    have : a + (v - 1 - rs u w v a) * e + e - a = (v - 1 - rs u w v a) * e + e := by omega
    rw [this, Int.mul_add, m1, h, Int.mul_add, Int.mul_add]
    omega
theorem rs_dn {u w v e j a b : Int} (hv : 1 ≤ v) (e0 : 0 ≤ e) (h : u * e = -1 + v * j) (k : e * (v + rs u w v a - rs u w v b) ≤ b - a) : ∃ n, a ≤ n ∧ n + e ≤ b ∧ rs u w v n = 0 ∧ rs u w v (n + e) = v - 1 := by
  obtain ⟨a0, a1⟩ := rs_rng (u := u) (w := w) hv a
  obtain ⟨b0, b1⟩ := rs_rng (u := u) (w := w) hv b
  have t0 : 0 ≤ rs u w v a * e := Int.mul_nonneg (by omega) e0
  have m1 := mul_stp h (rs u w v a)
  refine ⟨a + rs u w v a * e, by omega, ?_, ?_, ?_⟩
  · have : (rs u w v a + 1) * e ≤ (v + rs u w v a - rs u w v b) * e := Int.mul_le_mul_of_nonneg_right (by omega) e0
    rw [Int.add_mul, Int.one_mul] at this
    rw [Int.mul_comm e] at k
    omega
  · exact rs_go hv (n := a) (by omega) (by omega) ⟨rs u w v a * j, by rw [Int.add_comm a, Int.add_sub_cancel]; omega⟩
  · refine rs_go hv (n := a) (by omega) (by omega) ⟨rs u w v a * j + j - 1, ?_⟩
    have : a + rs u w v a * e + e - a = rs u w v a * e + e := by omega
    rw [this, Int.mul_add, m1, h, Int.mul_sub, Int.mul_add]
    omega
structure Corn (u w v l h z0 z1 o0 o1 : Int) : Prop where
  v1 : 1 ≤ v
  i0 : l ≤ z0 ∧ z0 ≤ h
  i1 : l ≤ z1 ∧ z1 ≤ h
  k0 : l ≤ o0 ∧ o0 ≤ h
  k1 : l ≤ o1 ∧ o1 ≤ h
  r0 : rs u w v z0 = 0
  r1 : rs u w v z1 = 0
  s0 : rs u w v o0 = v - 1
  s1 : rs u w v o1 = v - 1
  z : ∀ n, l ≤ n → n ≤ h → rs u w v n = 0 → z0 ≤ n ∧ n ≤ z1
  o : ∀ n, l ≤ n → n ≤ h → rs u w v n = v - 1 → o0 ≤ n ∧ n ≤ o1
section
variable {u w v l h z0 z1 o0 o1 : Int} (C : Corn u w v l h z0 z1 o0 o1)
include C
theorem Corn.uniq {a0 a1 b0 b1 : Int} (D : Corn u w v l h a0 a1 b0 b1) : z0 = a0 ∧ z1 = a1 ∧ o0 = b0 ∧ o1 = b1 := by
  have c1 := C.z a0 D.i0.1 D.i0.2 D.r0
  have c2 := C.z a1 D.i1.1 D.i1.2 D.r1
  have c3 := C.o b0 D.k0.1 D.k0.2 D.s0
  have c4 := C.o b1 D.k1.1 D.k1.2 D.s1
  have d1 := D.z z0 C.i0.1 C.i0.2 C.r0
  have d2 := D.z z1 C.i1.1 C.i1.2 C.r1
  have d3 := D.o o0 C.k0.1 C.k0.2 C.s0
  have d4 := D.o o1 C.k1.1 C.k1.2 C.s1
  omega
theorem Corn.z0_le {e j n : Int} (e0 : 0 ≤ e) (he : u * e = -1 + v * j) (hn : l ≤ n) : z0 ≤ n + rs u w v n * e := by
  have r := rs_rng (u := u) (w := w) C.v1 n
  have t0 : 0 ≤ rs u w v n * e := Int.mul_nonneg r.1 e0
  have m1 := mul_stp he (rs u w v n)
  have v1 := C.v1
  have q : rs u w v (n + rs u w v n * e) = 0 := rs_go C.v1 (n := n) (by omega) (by omega) ⟨rs u w v n * j, by rw [Int.add_comm n, Int.add_sub_cancel]; omega⟩
  by_cases c : n + rs u w v n * e ≤ h
  · exact (C.z _ (by omega) c q).1
  · have := C.i0; omega
theorem Corn.z1_ge {e j n : Int} (e0 : 0 ≤ e) (he : u * e = 1 + v * j) (hn : n ≤ h) : n ≤ z1 + rs u w v n * e := by
  have r := rs_rng (u := u) (w := w) C.v1 n
  have t0 : 0 ≤ rs u w v n * e := Int.mul_nonneg r.1 e0
  have m1 := mul_stp he (rs u w v n)
  have v1 := C.v1
  have q : rs u w v (n - rs u w v n * e) = 0 := rs_go C.v1 (n := n) (by omega) (by omega) ⟨-(rs u w v n * j), by
    have : n - rs u w v n * e - n = -(rs u w v n * e) := by omega
    rw [this, Int.mul_neg, m1, Int.mul_neg v]; omega⟩
  by_cases c : l ≤ n - rs u w v n * e
  · have := (C.z _ c (by omega) q).2; omega
  · have := C.i1; omega
theorem Corn.o0_le {e j n : Int} (e0 : 0 ≤ e) (he : u * e = 1 + v * j) (hn : l ≤ n) : o0 ≤ n + (v - 1 - rs u w v n) * e := by
  have r := rs_rng (u := u) (w := w) C.v1 n
  have t0 : 0 ≤ (v - 1 - rs u w v n) * e := Int.mul_nonneg (by omega) e0
  have m1 := mul_stp he (v - 1 - rs u w v n)
  have v1 := C.v1
  have q : rs u w v (n + (v - 1 - rs u w v n) * e) = v - 1 := rs_go C.v1 (n := n) (by omega) (by omega) ⟨(v - 1 - rs u w v n) * j, by rw [Int.add_comm n, Int.add_sub_cancel]; omega⟩
  by_cases c : n + (v - 1 - rs u w v n) * e ≤ h
  · exact (C.o _ (by omega) c q).1
  · have := C.k0; omega
theorem Corn.o1_ge {e j n : Int} (e0 : 0 ≤ e) (he : u * e = -1 + v * j) (hn : n ≤ h) : n ≤ o1 + (v - 1 - rs u w v n) * e := by
  have r := rs_rng (u := u) (w := w) C.v1 n
  have t0 : 0 ≤ (v - 1 - rs u w v n) * e := Int.mul_nonneg (by omega) e0
  have m1 := mul_stp he (v - 1 - rs u w v n)
  have v1 := C.v1
  have q : rs u w v (n - (v - 1 - rs u w v n) * e) = v - 1 := rs_go C.v1 (n := n) (by omega) (by omega) ⟨-((v - 1 - rs u w v n) * j), by
    have : n - (v - 1 - rs u w v n) * e - n = -((v - 1 - rs u w v n) * e) := by omega
    rw [this, Int.mul_neg, m1, Int.mul_neg v]; omega⟩
  by_cases c : l ≤ n - (v - 1 - rs u w v n) * e
  · have := (C.o _ c (by omega) q).2; omega
  · have := C.k1; omega
end
structure Wide (u v z0 z1 o0 o1 : Int) : Prop where
  dn : ∀ e j, 0 ≤ e → e < v → u * e = 1 + v * j → e ≤ z1 - o0
  up : ∀ e j, 0 ≤ e → e < v → u * e = -1 + v * j → e ≤ o1 - z0
theorem lin_le {k e E o m s : Int} (k0 : 0 ≤ k) (s0 : 0 ≤ s) (eE : e ≤ E) (kE : k * E ≤ o) (m1 : m ≤ s * e) : k * m ≤ s * o := by
  have a := Int.mul_le_mul_of_nonneg_left m1 k0
  have b := Int.mul_le_mul_of_nonneg_left eE k0
  have c := Int.mul_le_mul_of_nonneg_left (show k * e ≤ o by omega) s0
  rw [Int.mul_left_comm] at a
  omega
theorem corn_line {u w v l h z0 z1 o0 o1 c d o e1 j1 e2 j2 : Int} (C : Corn u w v l h z0 z1 o0 o1) (W : Wide u v z0 z1 o0 o1) (ho : 1 ≤ o)
    (a1 : 0 ≤ e1) (b1 : e1 < v) (h1 : u * e1 = 1 + v * j1) (a2 : 0 ≤ e2) (b2 : e2 < v) (h2 : u * e2 = -1 + v * j2)
    (p0 : 0 ≤ c * z0 + d) (p1 : 0 ≤ c * z1 + d) (q0 : c * o0 + d < o) (q1 : c * o1 + d < o) {n : Int} (nl : l ≤ n) (nh : n ≤ h) : -(rs u w v n * o) ≤ c * n + d ∧ c * n + d < (v - rs u w v n) * o := by
  have r := rs_rng (u := u) (w := w) C.v1 n
  have v1 := C.v1
  have ro : 0 ≤ rs u w v n * o := Int.mul_nonneg r.1 (by omega)
  have rv : 0 ≤ (v - 1 - rs u w v n) * o := Int.mul_nonneg (by omega) (by omega)
  have ev : (v - rs u w v n) * o = (v - 1 - rs u w v n) * o + o := by
    rw [show v - rs u w v n = (v - 1 - rs u w v n) + 1 by omega, Int.add_mul, Int.one_mul]
  rw [ev]
  rcases Int.lt_or_le c 0 with hc | hc
  · have W1 := W.dn _ _ a1 b1 h1
    have kE : (-c) * (z1 - o0) ≤ o := by rw [Int.neg_mul, Int.mul_sub]; omega
    have x1 := lin_le (k := -c) (m := n - z1) (by omega) r.1 W1 kE (by have := C.z1_ge a1 h1 nh; omega)
    have x2 := lin_le (k := -c) (m := o0 - n) (s := v - 1 - rs u w v n) (by omega) (by omega) W1 kE (by have := C.o0_le a1 h1 nl; omega)
    rw [Int.neg_mul, Int.mul_sub] at x1 x2
    exact ⟨by omega, by omega⟩
  · have W1 := W.up _ _ a2 b2 h2
    have kE : c * (o1 - z0) ≤ o := by rw [Int.mul_sub]; omega
    have x1 := lin_le (k := c) (m := z0 - n) (by omega) r.1 W1 kE (by have := C.z0_le a2 h2 nl; omega)
    have x2 := lin_le (k := c) (m := n - o1) (s := v - 1 - rs u w v n) (by omega) (by omega) W1 kE (by have := C.o1_ge a2 h2 nh; omega)
    rw [Int.mul_sub] at x1 x2
    exact ⟨by omega, by omega⟩
theorem corn_dn {u w v l h z0 z1 o0 o1 e j a b : Int} (C : Corn u w v l h z0 z1 o0 o1) (W : Wide u v z0 z1 o0 o1) (a1 : 0 ≤ e) (b1 : e < v) (h1 : u * e = 1 + v * j) (la : l ≤ a) (bh : b ≤ h) : b - a ≤ (v + rs u w v b - rs u w v a) * (z1 - o0) := by
  have ra := rs_rng (u := u) (w := w) C.v1 a
  have rb := rs_rng (u := u) (w := w) C.v1 b
  have W1 := W.dn _ _ a1 b1 h1
  have x1 := C.z1_ge a1 h1 bh
  have x2 := C.o0_le a1 h1 la
  have x3 := Int.mul_le_mul_of_nonneg_left W1 (show 0 ≤ rs u w v b + (v - 1 - rs u w v a) by omega)
  rw [Int.add_mul] at x3
  have e1 : (v + rs u w v b - rs u w v a) * (z1 - o0) = (rs u w v b + (v - 1 - rs u w v a)) * (z1 - o0) + (z1 - o0) := by
    rw [show v + rs u w v b - rs u w v a = rs u w v b + (v - 1 - rs u w v a) + 1 by omega, Int.add_mul _ 1, Int.one_mul]
  omega
theorem corn_up {u w v l h z0 z1 o0 o1 e j a b : Int} (C : Corn u w v l h z0 z1 o0 o1) (W : Wide u v z0 z1 o0 o1) (a1 : 0 ≤ e) (b1 : e < v) (h1 : u * e = -1 + v * j) (la : l ≤ a) (bh : b ≤ h) : b - a ≤ (v + rs u w v a - rs u w v b) * (o1 - z0) := by
  have ra := rs_rng (u := u) (w := w) C.v1 a
  have rb := rs_rng (u := u) (w := w) C.v1 b
  have W1 := W.up _ _ a1 b1 h1
  have x1 := C.o1_ge a1 h1 bh
  have x2 := C.z0_le a1 h1 la
  have x3 := Int.mul_le_mul_of_nonneg_left W1 (show 0 ≤ rs u w v a + (v - 1 - rs u w v b) by omega)
  rw [Int.add_mul] at x3
  have e1 : (v + rs u w v a - rs u w v b) * (o1 - z0) = (rs u w v a + (v - 1 - rs u w v b)) * (o1 - z0) + (o1 - z0) := by
    rw [show v + rs u w v a - rs u w v b = rs u w v a + (v - 1 - rs u w v b) + 1 by omega, Int.add_mul _ 1, Int.one_mul]
  omega
end Dl
namespace Dl
open PySem L2
theorem vl_neg {x : Tr} (o1 : 1 ≤ x.2.2) (n : Int) : vl (negT x) n = - vl x n := by
  have h := (vl_iff (y := x) (n := n) o1).mp rfl
  refine (vl_iff (y := negT x) (n := n) (v := - vl x n) o1).mpr ?_
  show x.2.2 * -vl x n - -x.1 * n ≤ x.2.2 - 1 - x.2.1 ∧ x.2.2 - 1 - x.2.1 < x.2.2 * -vl x n - -x.1 * n + x.2.2
  rw [Int.mul_neg, Int.neg_mul]
  omega
theorem SB.cop {I : Iv} {u v : Int} (s : SB I u v) : gcdI u v = 1 := by
  have v1 := s.mem.v1
  obtain ⟨g, g0, e1, e2, f1, f2⟩ := fr_ok (p := u) v1
  have m : InI I (fr u v).1 (fr u v).2 := by
    have lo := s.mem.lo
    have hi := s.mem.hi
    refine ⟨f1, ?_, ?_⟩
    · have x1 : I.p1 * v = g * (I.p1 * (fr u v).2) := by conv => { lhs; rw [e2, Int.mul_left_comm] }
      have x2 : u * I.q1 = g * ((fr u v).1 * I.q1) := by conv => { lhs; rw [e1, Int.mul_assoc] }
      exact Int.lt_of_mul_lt_mul_left (show g * (I.p1 * (fr u v).2) < g * ((fr u v).1 * I.q1) by omega) (by omega)
    · have x1 : I.p2 * v = g * (I.p2 * (fr u v).2) := by conv => { lhs; rw [e2, Int.mul_left_comm] }
      have x2 : u * I.q2 = g * ((fr u v).1 * I.q2) := by conv => { lhs; rw [e1, Int.mul_assoc] }
      exact Int.lt_of_mul_lt_mul_left (show g * ((fr u v).1 * I.q2) < g * (I.p2 * (fr u v).2) by omega) (by omega)
  have d := s.den _ _ m
  have := fr_le (p := u) v1
  have e : (fr u v).2 = v := by omega
  have g1 : g = 1 := by
    rw [e] at e2
    have : g * v = 1 * v := by omega
    exact Int.eq_of_mul_eq_mul_right (by omega) this
  rw [g1, Int.one_mul] at e1 e2
  rw [← e1, ← e2] at f2
  exact f2
theorem Slo.slp {x : Tr} {l h u v : Int} {I : Iv} (a : Slo x l h I) (o1 : 1 ≤ x.2.2) (m : InI I u v) : Slp (vl x) l h u v := by
  intro c d c1 c2 d1 d2
  have q1 := a.lo.q1
  have q2 : 1 ≤ I.q2 := LowS.q1 a.hi
  have v1 := m.v1
  rcases Int.lt_trichotomy c d with g | g | g
  · have k := a.lo.le c d c1 g d2
    have k1 := Int.mul_le_mul_of_nonneg_left k (show 0 ≤ v by omega)
    have k2 := Int.mul_lt_mul_of_pos_right m.lo (show 0 < d - c by omega)
    have e1 : v * (I.q1 * (vl x d - vl x c - 1)) = I.q1 * (v * (vl x d - vl x c - 1)) := Int.mul_left_comm _ _ _
    have e2 : v * (I.p1 * (d - c)) = I.p1 * v * (d - c) := by rw [Int.mul_left_comm, Int.mul_assoc]
    have e3 : u * I.q1 * (d - c) = I.q1 * (u * (d - c)) := by rw [Int.mul_comm u, Int.mul_assoc]
    exact Int.lt_of_mul_lt_mul_left (show I.q1 * (v * (vl x d - vl x c - 1)) < I.q1 * (u * (d - c)) by omega) (by omega)
  · subst g
    rw [Int.sub_self, Int.sub_self, Int.mul_zero]
    omega
  · have k : I.q2 * (vl (negT x) c - vl (negT x) d - 1) ≤ -I.p2 * (c - d) := LowS.le a.hi d c d1 g c2
    rw [vl_neg o1, vl_neg o1] at k
    have k1 := Int.mul_le_mul_of_nonneg_left k (show 0 ≤ v by omega)
    have k2 := Int.mul_lt_mul_of_pos_right m.hi (show 0 < c - d by omega)
    have e1 : v * (I.q2 * (-vl x c - -vl x d - 1)) = I.q2 * (v * (vl x d - vl x c - 1)) := by
      rw [Int.mul_left_comm, show -vl x c - -vl x d - 1 = vl x d - vl x c - 1 by omega]
    have e2 : v * (-I.p2 * (c - d)) = -(I.p2 * v * (c - d)) := by rw [Int.neg_mul, Int.mul_neg, Int.mul_left_comm, Int.mul_assoc]
    have e3 : u * I.q2 * (c - d) = -(I.q2 * (u * (d - c))) := by rw [Int.mul_comm u, Int.mul_assoc, ← Int.mul_neg, ← Int.mul_neg, show -(d - c) = c - d by omega]
    exact Int.lt_of_mul_lt_mul_left (show I.q2 * (v * (vl x d - vl x c - 1)) < I.q2 * (u * (d - c)) by omega) (by omega)
theorem Slo.agr {x : Tr} {l h u v : Int} {I : Iv} (a : Slo x l h I) (o1 : 1 ≤ x.2.2) (hl : l ≤ h) (m : InI I u v) : Agr x (u, loW x l h u v, v) l h :=
  (agr_of_slp hl m.v1).mpr ⟨Int.le_refl _, slp_room hl (a.slp o1 m)⟩
theorem rs_vl {x : Tr} {l h u w v : Int} (g : Agr x (u, w, v) l h) {n : Int} (n1 : l ≤ n) (n2 : n ≤ h) : u * n + w = v * vl x n + rs u w v n := by
  rw [g n n1 n2]
  exact (Int.mul_ediv_add_emod (u * n + w) v).symm
section
variable {x : Tr} {l h u v w : Int} {I : Iv} (a : Slo x l h I) (s : SB I u v) (g : Agr x (u, w, v) l h)
include a s g
theorem slo_up {e j : Int} (e0 : 1 ≤ e) (ev : e < v) (he : u * e = 1 + v * j) : ∃ n, l ≤ n ∧ n + e ≤ h ∧ rs u w v n = v - 1 ∧ rs u w v (n + e) = 0 := by
  have v1 := s.mem.v1
  have q1 := a.lo.q1
  have hi : j * I.q2 < I.p2 * e := by
    have k := Int.mul_lt_mul_of_pos_right s.mem.hi (show 0 < e by omega)
    have e1 : u * I.q2 * e = I.q2 + v * (j * I.q2) := by rw [Int.mul_right_comm, he, Int.add_mul, Int.one_mul, Int.mul_assoc]
    have e2 : I.p2 * v * e = v * (I.p2 * e) := by rw [Int.mul_comm I.p2, Int.mul_assoc]
    have q2 : 1 ≤ I.q2 := LowS.q1 a.hi
    exact Int.lt_of_mul_lt_mul_left (show v * (j * I.q2) < v * (I.p2 * e) by omega) (by omega)
  have lo : j * I.q1 ≤ I.p1 * e := by
    rcases Int.lt_or_le (I.p1 * e) (j * I.q1) with c | c
    · have := s.den _ _ ⟨e0, c, hi⟩
      omega
    · exact c
  obtain ⟨c, d, c1, cd, d1, ee⟩ := a.lo.ex
  have k1 := Int.mul_le_mul_of_nonneg_right lo (show 0 ≤ d - c by omega)
  have e1 : I.p1 * e * (d - c) = I.q1 * (e * (vl x d - vl x c - 1)) := by rw [Int.mul_right_comm, ee, Int.mul_right_comm, Int.mul_assoc]
  have e2 : j * I.q1 * (d - c) = I.q1 * (j * (d - c)) := by rw [Int.mul_comm j, Int.mul_assoc]
  have k2 : j * (d - c) ≤ e * (vl x d - vl x c - 1) := Int.le_of_mul_le_mul_left (show I.q1 * (j * (d - c)) ≤ I.q1 * (e * (vl x d - vl x c - 1)) by omega) (by omega)
  have rc := rs_vl g (n := c) c1 (by omega)
  have rd := rs_vl g (n := d) (by omega) d1
  have k3 := Int.mul_le_mul_of_nonneg_left k2 (show 0 ≤ v by omega)
  have e3 : v * (e * (vl x d - vl x c - 1)) = e * (u * (d - c) - rs u w v d + rs u w v c - v) := by
    rw [Int.mul_left_comm]
    congr 1
    rw [Int.mul_sub, Int.mul_sub, Int.mul_one, Int.mul_sub]
    omega
  have e4 : e * (u * (d - c) - rs u w v d + rs u w v c - v) = (d - c) + v * (j * (d - c)) - e * (v + rs u w v d - rs u w v c) := by
    have : u * (d - c) - rs u w v d + rs u w v c - v = u * (d - c) - (v + rs u w v d - rs u w v c) := by omega
    rw [this, Int.mul_sub, ← Int.mul_assoc, Int.mul_comm e u, he, Int.add_mul, Int.one_mul, Int.mul_assoc]
  obtain ⟨n, n1, n2, n3⟩ := rs_up (u := u) (w := w) (a := c) (b := d) v1 (by omega) he (by omega)
  exact ⟨n, by omega, by omega, n3⟩
theorem slo_dn (o1 : 1 ≤ x.2.2) {e j : Int} (e0 : 1 ≤ e) (ev : e < v) (he : u * e = -1 + v * j) : ∃ n, l ≤ n ∧ n + e ≤ h ∧ rs u w v n = 0 ∧ rs u w v (n + e) = v - 1 := by
  have v1 := s.mem.v1
  have q2 : 1 ≤ I.q2 := LowS.q1 a.hi
  have lo : I.p1 * e < j * I.q1 := by
    have k := Int.mul_lt_mul_of_pos_right s.mem.lo (show 0 < e by omega)
    have e1 : u * I.q1 * e = -I.q1 + v * (j * I.q1) := by rw [Int.mul_right_comm, he, Int.add_mul, Int.neg_mul, Int.one_mul, Int.mul_assoc]
    have e2 : I.p1 * v * e = v * (I.p1 * e) := by rw [Int.mul_comm I.p1, Int.mul_assoc]
    have q1 := a.lo.q1
    exact Int.lt_of_mul_lt_mul_left (show v * (I.p1 * e) < v * (j * I.q1) by omega) (by omega)
  have hi : I.p2 * e ≤ j * I.q2 := by
    rcases Int.lt_or_le (j * I.q2) (I.p2 * e) with c | c
    · have := s.den _ _ ⟨e0, lo, c⟩
      omega
    · exact c
  obtain ⟨c, d, c1, cd, d1, ee⟩ := LowS.ex a.hi
  rw [vl_neg o1, vl_neg o1, Int.neg_mul, show -vl x d - -vl x c - 1 = -(vl x d - vl x c + 1) by omega, Int.mul_neg] at ee
  have ee2 : I.p2 * (d - c) = I.q2 * (vl x d - vl x c + 1) := by omega
  have k1 := Int.mul_le_mul_of_nonneg_right hi (show 0 ≤ d - c by omega)
  have e1 : I.p2 * e * (d - c) = I.q2 * (e * (vl x d - vl x c + 1)) := by rw [Int.mul_right_comm, ee2, Int.mul_right_comm, Int.mul_assoc]
  have e2 : j * I.q2 * (d - c) = I.q2 * (j * (d - c)) := by rw [Int.mul_comm j, Int.mul_assoc]
  have k2 : e * (vl x d - vl x c + 1) ≤ j * (d - c) := Int.le_of_mul_le_mul_left (show I.q2 * (e * (vl x d - vl x c + 1)) ≤ I.q2 * (j * (d - c)) by omega) (by omega)
  have rc := rs_vl g (n := c) c1 (by omega)
  have rd := rs_vl g (n := d) (by omega) d1
  have k3 := Int.mul_le_mul_of_nonneg_left k2 (show 0 ≤ v by omega)
  have e3 : v * (e * (vl x d - vl x c + 1)) = e * (u * (d - c) - rs u w v d + rs u w v c + v) := by
    rw [Int.mul_left_comm]
    congr 1
    rw [Int.mul_add, Int.mul_sub, Int.mul_one, Int.mul_sub]
    omega
  have e4 : e * (u * (d - c) - rs u w v d + rs u w v c + v) = -(d - c) + v * (j * (d - c)) + e * (v + rs u w v c - rs u w v d) := by
    have : u * (d - c) - rs u w v d + rs u w v c + v = u * (d - c) + (v + rs u w v c - rs u w v d) := by omega
    rw [this, Int.mul_add, ← Int.mul_assoc, Int.mul_comm e u, he, Int.add_mul, Int.neg_mul, Int.one_mul, Int.mul_assoc]
  obtain ⟨n, n1, n2, n3⟩ := rs_dn (u := u) (w := w) (a := c) (b := d) v1 (by omega) he (by omega)
  exact ⟨n, by omega, by omega, n3⟩
end
theorem gq_rs {x : Tr} {l h u v w : Int} (g : Agr x (u, w, v) l h) {n : Int} (n1 : l ≤ n) (n2 : n ≤ h) : gq x (-u) v n = w - rs u w v n ∧ gq x u (-v) n = rs u w v n - w := by
  have := rs_vl g n1 n2
  unfold gq
  rw [Int.neg_mul, Int.neg_mul]
  omega
theorem one_dvd_e {u v e j c : Int} (v2 : 2 ≤ v) (hc : c = 1 ∨ c = -1) (h : u * e = c + v * j) (e0 : 0 ≤ e) : 1 ≤ e := by
  rcases Int.lt_or_le 0 e with k | k
  · exact k
  · have : e = 0 := by omega
    rw [this, Int.mul_zero] at h
    rcases Int.lt_trichotomy j 0 with q | q | q
    · have := Int.mul_le_mul_of_nonneg_left (show j ≤ -1 by omega) (show 0 ≤ v by omega)
      omega
    · rw [q, Int.mul_zero] at h; omega
    · have := Int.mul_le_mul_of_nonneg_left (show 1 ≤ j by omega) (show 0 ≤ v by omega)
      omega
section
variable {x : Tr} {l h u v w : Int} {I : Iv} (a : Slo x l h I) (s : SB I u v) (g : Agr x (u, w, v) l h) (hl : l ≤ h)
include a s g hl
theorem slo_ex : (∃ n, l ≤ n ∧ n ≤ h ∧ rs u w v n = 0) ∧ ∃ n, l ≤ n ∧ n ≤ h ∧ rs u w v n = v - 1 := by
  have v1 := s.mem.v1
  obtain ⟨e1, a1, b1, j1, h1⟩ := solve v1 s.cop 1
  have R := fun n => rs_rng (u := u) (w := w) v1 n
  by_cases c : v = 1
  · refine ⟨⟨l, Int.le_refl _, hl, ?_⟩, l, Int.le_refl _, hl, ?_⟩
    · have := R l; omega
    · have := R l; omega
  · have p1 := one_dvd_e (by omega) (.inl rfl) h1 a1
    obtain ⟨n, m1, m2, m3, m4⟩ := slo_up a s g p1 b1 h1
    exact ⟨⟨n + e1, by omega, m2, m4⟩, n, m1, by omega, m3⟩
theorem slo_wide (o1 : 1 ≤ x.2.2) {z0 z1 n0 n1 : Int} (C : Corn u w v l h z0 z1 n0 n1) : Wide u v z0 z1 n0 n1 := by
  have R := fun n => rs_rng (u := u) (w := w) C.v1 n
  have v1 := C.v1
  refine ⟨fun e j c d he => ?_, fun e j c d he => ?_⟩
  · by_cases k : v = 1
    · have k1 := C.z l (Int.le_refl _) hl (by have := R l; omega)
      have k2 := C.z h hl (Int.le_refl _) (by have := R h; omega)
      have k3 := C.o l (Int.le_refl _) hl (by have := R l; omega)
      omega
    · obtain ⟨n, m1, m2, m3, m4⟩ := slo_up a s g (one_dvd_e (by omega) (.inl rfl) he c) d he
      have k1 := C.o n m1 (by omega) m3
      have k2 := C.z _ (by omega) m2 m4
      omega
  · by_cases k : v = 1
    · have k1 := C.z l (Int.le_refl _) hl (by have := R l; omega)
      have k2 := C.o h hl (Int.le_refl _) (by have := R h; omega)
      have k3 := C.o l (Int.le_refl _) hl (by have := R l; omega)
      omega
    · obtain ⟨n, m1, m2, m3, m4⟩ := slo_dn a s g o1 (one_dvd_e (by omega) (.inr rfl) he c) d he
      have k1 := C.z n m1 (by omega) m3
      have k2 := C.o _ (by omega) m2 m4
      omega
end
theorem lean_corn {x : Tr} {l h u v w z0 z1 n0 n1 : Int} {I : Iv} (a : Slo x l h I) (s : SB I u v) (g : Agr x (u, w, v) l h) (o1 : 1 ≤ x.2.2) (hl : l ≤ h)
    (Z0 : IsArg (gq x (-u) v) l h false z0) (Z1 : IsArg (gq x (-u) v) l h true z1) (N0 : IsArg (gq x u (-v)) l h false n0) (N1 : IsArg (gq x u (-v)) l h true n1) : Corn u w v l h z0 z1 n0 n1 ∧ Wide u v z0 z1 n0 n1 := by
  have v1 := s.mem.v1
  have R := fun n => rs_rng (u := u) (w := w) v1 n
  obtain ⟨⟨zn, zn1, zn2, zn3⟩, on, on1, on2, on3⟩ := slo_ex a s g hl
  have q : ∀ n, l ≤ n → n ≤ h → gq x (-u) v n = w - rs u w v n ∧ gq x u (-v) n = rs u w v n - w := fun n c d => gq_rs g c d
  have zz : ∀ z b, IsArg (gq x (-u) v) l h b z → rs u w v z = 0 := fun z b A => by
    have k := A.le zn zn1 zn2
    rw [(q _ zn1 zn2).1, (q _ A.l0 A.h0).1] at k
    have := R z; omega
  have oo : ∀ z b, IsArg (gq x u (-v)) l h b z → rs u w v z = v - 1 := fun z b A => by
    have k := A.le on on1 on2
    rw [(q _ on1 on2).2, (q _ A.l0 A.h0).2] at k
    have := R z; omega
  have C : Corn u w v l h z0 z1 n0 n1 := by
    refine ⟨v1, ⟨Z0.l0, Z0.h0⟩, ⟨Z1.l0, Z1.h0⟩, ⟨N0.l0, N0.h0⟩, ⟨N1.l0, N1.h0⟩, zz _ _ Z0, zz _ _ Z1, oo _ _ N0, oo _ _ N1, fun n c d e => ?_, fun n c d e => ?_⟩
    · have t0 := Z0.tie n c d (by rw [(q _ c d).1, (q _ Z0.l0 Z0.h0).1, zz _ _ Z0, e])
      have t1 := Z1.tie n c d (by rw [(q _ c d).1, (q _ Z1.l0 Z1.h0).1, zz _ _ Z1, e])
      simp only [Bool.false_eq_true, if_false, if_true] at t0 t1
      exact ⟨t0, t1⟩
    · have t0 := N0.tie n c d (by rw [(q _ c d).2, (q _ N0.l0 N0.h0).2, oo _ _ N0, e])
      have t1 := N1.tie n c d (by rw [(q _ c d).2, (q _ N1.l0 N1.h0).2, oo _ _ N1, e])
      simp only [Bool.false_eq_true, if_false, if_true] at t0 t1
      exact ⟨t0, t1⟩
  exact ⟨C, slo_wide a s g hl o1 C⟩
theorem at_iff {y : Tr} {u w v n f r : Int} (v1 : 1 ≤ v) (o1 : 1 ≤ y.2.2) (e : u * n + w = v * f + r) : f = vl y n ↔ -(r * y.2.2) ≤ (y.1 * v - u * y.2.2) * n + (y.2.1 * v - w * y.2.2) ∧ (y.1 * v - u * y.2.2) * n + (y.2.1 * v - w * y.2.2) < (v - r) * y.2.2 := by
  have k := vl_iff (y := y) (n := n) (v := f) o1
  have e1 : (y.1 * v - u * y.2.2) * n + (y.2.1 * v - w * y.2.2) = v * (y.1 * n + y.2.1) - (u * n + w) * y.2.2 := by
    rw [Int.sub_mul, Int.add_mul, Int.mul_add, Int.mul_right_comm u, Int.mul_right_comm y.1, Int.mul_comm (y.1 * n), Int.mul_comm y.2.1]
    omega
  have e2 : (u * n + w) * y.2.2 = v * (y.2.2 * f) + r * y.2.2 := by rw [e, Int.add_mul, Int.mul_assoc, Int.mul_comm f]
  have e3 : (v - r) * y.2.2 = v * y.2.2 - r * y.2.2 := Int.sub_mul _ _ _
  rw [e1, e2, e3]
  have e4 : v * (y.1 * n + y.2.1) = v * (y.2.1 - (y.2.2 * f - y.1 * n)) + v * (y.2.2 * f) := by rw [← Int.mul_add]; congr 1; omega
  constructor
  · intro q
    have k2 := k.mp q.symm
    have p1 := Int.mul_nonneg (show 0 ≤ v by omega) (show 0 ≤ y.2.1 - (y.2.2 * f - y.1 * n) by omega)
    have p2 := Int.mul_lt_mul_of_pos_left (show y.2.1 - (y.2.2 * f - y.1 * n) < y.2.2 by omega) (show 0 < v by omega)
    omega
  · intro q
    have p1 : v * 0 ≤ v * (y.2.1 - (y.2.2 * f - y.1 * n)) := by rw [Int.mul_zero]; omega
    have p2 : v * (y.2.1 - (y.2.2 * f - y.1 * n)) < v * y.2.2 := by omega
    have p3 := Int.le_of_mul_le_mul_left p1 (by omega)
    have p4 := Int.lt_of_mul_lt_mul_left p2 (by omega)
    exact (k.mpr ⟨by omega, by omega⟩).symm
theorem tests_agr {x y : Tr} {l h u v w z0 z1 n0 n1 : Int} (g : Agr x (u, w, v) l h) (cp : gcdI u v = 1) (C : Corn u w v l h z0 z1 n0 n1) (W : Wide u v z0 z1 n0 n1) (o1 : 1 ≤ y.2.2)
    (t0 : vl x z0 = vl y z0) (t1 : vl x z1 = vl y z1) (t2 : vl x n0 = vl y n0) (t3 : vl x n1 = vl y n1) : Agr x y l h := by
  have v1 := C.v1
  obtain ⟨e1, a1, b1, j1, h1⟩ := solve v1 cp 1
  obtain ⟨e2, a2, b2, j2, h2⟩ := solve v1 cp (-1)
  have p0 := (at_iff (y := y) v1 o1 (rs_vl g C.i0.1 C.i0.2)).mp t0
  have p1 := (at_iff (y := y) v1 o1 (rs_vl g C.i1.1 C.i1.2)).mp t1
  have p2 := (at_iff (y := y) v1 o1 (rs_vl g C.k0.1 C.k0.2)).mp t2
  have p3 := (at_iff (y := y) v1 o1 (rs_vl g C.k1.1 C.k1.2)).mp t3
  rw [C.r0, Int.zero_mul] at p0
  rw [C.r1, Int.zero_mul] at p1
  rw [C.s0, show v - (v - 1) = 1 by omega, Int.one_mul] at p2
  rw [C.s1, show v - (v - 1) = 1 by omega, Int.one_mul] at p3
  intro n nl nh
  exact (at_iff (y := y) v1 o1 (rs_vl g nl nh)).mpr (corn_line C W o1 a1 b1 h1 a2 b2 h2 (by omega) (by omega) p2.2 p3.2 nl nh)
end Dl
namespace Dl
open PySem L2
theorem rs_same {u w v n m : Int} (v1 : 1 ≤ v) (cp : gcdI u v = 1) (h : rs u w v n = rs u w v m) : ∃ k, n = m + v * k := by
  have r := rs_rng (u := u) (w := w) v1 m
  obtain ⟨i, hi⟩ := (rs_iff r.1 r.2).mp h
  obtain ⟨j, hj⟩ := (rs_iff (u := u) (w := w) (v := v) (n := m) r.1 r.2).mp rfl
  have e : u * (n - m) = v * (i - j) := by rw [Int.mul_sub, Int.mul_sub]; omega
  obtain ⟨k, hk⟩ := cop_dvd cp ⟨_, e⟩
  exact ⟨k, by omega⟩
structure Frst (u w v l c n : Int) : Prop where
  lo : l ≤ n
  hi : n < l + v
  r : rs u w v n = c
theorem Frst.le {u w v l c n m : Int} (v1 : 1 ≤ v) (cp : gcdI u v = 1) (F : Frst u w v l c n) (lm : l ≤ m) (h : rs u w v m = c) : n ≤ m := by
  obtain ⟨k, hk⟩ := rs_same v1 cp (h.trans F.r.symm)
  have := F.hi
  rcases Int.lt_or_le k 0 with q | q
  · have := Int.mul_le_mul_of_nonneg_left (show k ≤ -1 by omega) (show 0 ≤ v by omega)
    omega
  · have := Int.mul_nonneg (show 0 ≤ v by omega) q
    omega
def lst (v h z : Int) : Int := z + (h - z) / v * v
end Dl
namespace Dl
open PySem L2
structure Lean (x : Tr) (l h u v z0 z1 o0 o1 : Int) : Prop where
  z0 : IsArg (gq x (-u) v) l h false z0
  z1 : IsArg (gq x (-u) v) l h true z1
  o0 : IsArg (gq x u (-v)) l h false o0
  o1 : IsArg (gq x u (-v)) l h true o1
structure Tests (x : Tr) (l h : Int) (ns : List Int) : Prop where
  asc : ns.Pairwise (· < ·)
  of : ∃ (I : Iv) (u v z0 z1 o0 o1 : Int), Slo x l h I ∧ SB I u v ∧ Lean x l h u v z0 z1 o0 o1 ∧ ∀ k : Int, k ∈ ns ↔ k ∈ [z0, z1, o0, o1]
theorem asc_len : ∀ {ns : List Int} {L : List Int}, ns.Pairwise (· < ·) → (∀ k ∈ ns, k ∈ L) → ns.length ≤ L.length
  | [], _, _, _ => Nat.zero_le _
  | n :: r, L, pw, h => by
    have hn := h n (by simp)
    have p := List.pairwise_cons.mp pw
    have ih := asc_len (ns := r) (L := L.erase n) p.2 fun k hk => (List.mem_erase_of_ne (by have := p.1 k hk; omega)).mpr (h k (by simp [hk]))
    rw [List.length_erase_of_mem hn] at ih
    have := List.length_pos_of_mem hn
    simp
    omega
theorem Tests.len {x : Tr} {l h : Int} {ns : List Int} (t : Tests x l h ns) : ns.length ≤ 4 := by
  obtain ⟨I, u, v, z0, z1, o0, o1, _, _, L, e⟩ := t.of
  exact asc_len t.asc fun k hk => (e k).mp hk
theorem asc_eq : ∀ {ns ms : List Int}, ns.Pairwise (· < ·) → ms.Pairwise (· < ·) → (∀ k, k ∈ ns ↔ k ∈ ms) → ns = ms
  | [], [], _, _, _ => rfl
  | [], m :: _, _, _, h => by have := (h m).mpr (by simp); simp at this
  | n :: _, [], _, _, h => by have := (h n).mp (by simp); simp at this
  | n :: r, m :: q, pn, pm, h => by
    have p := List.pairwise_cons.mp pn
    have o := List.pairwise_cons.mp pm
    have e : n = m := by
      have h1 := (h n).mp (by simp)
      have h2 := (h m).mpr (by simp)
      simp only [List.mem_cons] at h1 h2
      rcases h1 with h1 | h1
      · exact h1
      · rcases h2 with h2 | h2
        · exact h2.symm
        · have := p.1 m h2
          have := o.1 n h1
          omega
    subst e
    rw [asc_eq p.2 o.2 fun k => ?_]
    constructor
    · intro hk
      have := (h k).mp (by simp [hk])
      simp only [List.mem_cons] at this
      rcases this with c | c
      · subst c; exact absurd (p.1 k hk) (by omega)
      · exact c
    · intro hk
      have := (h k).mpr (by simp [hk])
      simp only [List.mem_cons] at this
      rcases this with c | c
      · subst c; exact absurd (o.1 k hk) (by omega)
      · exact c
theorem LowS.congr {f g : Int → Int} {l h p q : Int} (e : ∀ n, l ≤ n → n ≤ h → f n = g n) (a : LowS f l h p q) : LowS g l h p q := by
  refine ⟨a.q1, a.cop, ?_, fun c d c1 cd d1 => ?_⟩
  · obtain ⟨c, d, c1, cd, d1, ee⟩ := a.ex
    exact ⟨c, d, c1, cd, d1, by rw [← e c c1 (by omega), ← e d (by omega) d1]; exact ee⟩
  · rw [← e c c1 (by omega), ← e d (by omega) d1]
    exact a.le c d c1 cd d1
theorem Slo.congr {x y : Tr} {l h : Int} {I : Iv} (x1 : 1 ≤ x.2.2) (y1 : 1 ≤ y.2.2) (g : Agr x y l h) (a : Slo x l h I) : Slo y l h I :=
  ⟨a.lo.congr g, LowS.congr (fun n h1 h2 => by rw [vl_neg x1, vl_neg y1, g n h1 h2]) a.hi⟩
theorem IsArg.congr {f g : Int → Int} {l h n : Int} {b : Bool} (e : ∀ n, l ≤ n → n ≤ h → f n = g n) (a : IsArg f l h b n) : IsArg g l h b n :=
  ⟨a.l0, a.h0, fun m h1 h2 => by rw [← e m h1 h2, ← e n a.l0 a.h0]; exact a.le m h1 h2, fun m h1 h2 q => a.tie m h1 h2 (by rw [e m h1 h2, e n a.l0 a.h0]; exact q)⟩
theorem gq_congr {x y : Tr} {l h s w : Int} (g : Agr x y l h) : ∀ n, l ≤ n → n ≤ h → gq x s w n = gq y s w n := fun n h1 h2 => by unfold gq; rw [g n h1 h2]
theorem Lean.congr {x y : Tr} {l h u v z0 z1 o0 o1 : Int} (g : Agr x y l h) (a : Lean x l h u v z0 z1 o0 o1) : Lean y l h u v z0 z1 o0 o1 :=
  ⟨a.z0.congr (gq_congr g), a.z1.congr (gq_congr g), a.o0.congr (gq_congr g), a.o1.congr (gq_congr g)⟩
theorem Tests.congr {x y : Tr} {l h : Int} {ns : List Int} (x1 : 1 ≤ x.2.2) (y1 : 1 ≤ y.2.2) (g : Agr x y l h) (t : Tests x l h ns) : Tests y l h ns := by
  obtain ⟨I, u, v, z0, z1, o0, o1, a, b, L, e⟩ := t.of
  exact ⟨t.asc, I, u, v, z0, z1, o0, o1, a.congr x1 y1 g, b, L.congr g, e⟩
theorem Lean.corn {x : Tr} {l h u v w z0 z1 n0 n1 : Int} {I : Iv} (L : Lean x l h u v z0 z1 n0 n1) (a : Slo x l h I) (s : SB I u v) (g : Agr x (u, w, v) l h) (o1 : 1 ≤ x.2.2) (hl : l ≤ h) : Corn u w v l h z0 z1 n0 n1 ∧ Wide u v z0 z1 n0 n1 :=
  lean_corn a s g o1 hl L.z0 L.z1 L.o0 L.o1
theorem Tests.uniq {x : Tr} {l h : Int} {ns ms : List Int} (t : Tests x l h ns) (r : Tests x l h ms) : ns = ms := by
  obtain ⟨I, u, v, z0, z1, o0, o1, a, b, L, e⟩ := t.of
  obtain ⟨I', u', v', z0', z1', o0', o1', a', b', L', e'⟩ := r.of
  obtain rfl := a.uniq a'
  obtain ⟨rfl, rfl⟩ := b.uniq b'
  obtain rfl := L.z0.uniq L'.z0
  obtain rfl := L.z1.uniq L'.z1
  obtain rfl := L.o0.uniq L'.o0
  obtain rfl := L.o1.uniq L'.o1
  exact asc_eq t.asc r.asc fun k => by rw [e k, e' k]
theorem Tests.corn {x : Tr} {l h u v w : Int} {I : Iv} {ns : List Int} (t : Tests x l h ns) (a : Slo x l h I) (s : SB I u v) (g : Agr x (u, w, v) l h) (o1 : 1 ≤ x.2.2) (hl : l ≤ h) : ∃ z0 z1 n0 n1, Corn u w v l h z0 z1 n0 n1 ∧ Wide u v z0 z1 n0 n1 ∧ ∀ k : Int, k ∈ ns ↔ k ∈ [z0, z1, n0, n1] := by
  obtain ⟨I', u', v', z0, z1, n0, n1, a', b', L, e⟩ := t.of
  obtain rfl := a.uniq a'
  obtain ⟨rfl, rfl⟩ := s.uniq b'
  obtain ⟨C, W⟩ := L.corn a s g o1 hl
  exact ⟨z0, z1, n0, n1, C, W, e⟩
theorem Tests.agr {x y : Tr} {l h : Int} {ns : List Int} (t : Tests x l h ns) (x1 : 1 ≤ x.2.2) (y1 : 1 ≤ y.2.2) (hl : l ≤ h) (q : ∀ n ∈ ns, vl x n = vl y n) : Agr x y l h := by
  obtain ⟨I, u, v, z0, z1, n0, n1, a, s, L, e⟩ := t.of
  have g := a.agr x1 hl s.mem
  obtain ⟨C, W⟩ := L.corn a s g x1 hl
  exact tests_agr g s.cop C W y1 (q _ ((e _).mpr (by simp))) (q _ ((e _).mpr (by simp))) (q _ ((e _).mpr (by simp))) (q _ ((e _).mpr (by simp)))
end Dl
namespace Dl
open PySem L2
theorem inI_iff {x : Tr} {l h u v : Int} {I : Iv} (sI : Slo x l h I) (x1 : 1 ≤ x.2.2) (v1 : 1 ≤ v) : InI I u v ↔ Slp (vl x) l h u v := by
  constructor
  · exact fun m => sI.slp x1 m
  · intro s
    have h1 := sI.lo.toP.lt s
    have s2 : Slp (vl (negT x)) l h (-u) v := fun a b a1 a2 c1 c2 => by
      have := s b a c1 c2 a1 a2
      rw [vl_neg x1, vl_neg x1, show -vl x b - -vl x a - 1 = vl x a - vl x b - 1 by omega, Int.neg_mul]
      rw [show a - b = -(b - a) by omega, Int.mul_neg] at this
      omega
    have h2 := LowP.lt (LowS.toP sI.hi) s2
    rw [Int.neg_mul, Int.neg_mul] at h2
    exact ⟨v1, h1, by omega⟩
end Dl
namespace Dl
open PySem L2
theorem best_fr : ∀ (L : List (Int × Int)), L ≠ [] → (∀ e ∈ L, 1 ≤ e.2) → ∃ e ∈ L, ∀ e' ∈ L, e'.1 * e.2 ≤ e.1 * e'.2
  | [], h, _ => absurd rfl h
  | [e], _, _ => ⟨e, by simp, fun e' h => by simp at h; subst h; exact Int.le_refl _⟩
  | e :: f :: r, _, h1 => by
    obtain ⟨g, hg, k⟩ := best_fr (f :: r) (by simp) fun e' he => h1 e' (by simp at he ⊢; exact .inr he)
    have e1 := h1 e (by simp)
    have g1 := h1 g (by simp at hg ⊢; exact .inr hg)
    rcases Int.lt_or_le (e.1 * g.2) (g.1 * e.2) with c | c
    · refine ⟨g, List.mem_cons_of_mem _ hg, fun e' he => ?_⟩
      rcases List.mem_cons.mp he with rfl | he
      · omega
      · exact k e' he
    · refine ⟨e, by simp, fun e' he => ?_⟩
      rcases List.mem_cons.mp he with rfl | he'
      · exact Int.le_refl _
      · have k1 := k e' he'
        have f1 := h1 e' he
        have a1 := Int.mul_le_mul_of_nonneg_right k1 (show 0 ≤ e.2 by omega)
        have a2 := Int.mul_le_mul_of_nonneg_right c (show 0 ≤ e'.2 by omega)
        refine Int.le_of_mul_le_mul_left (a := g.2) ?_ (by omega)
        grind
theorem lowS_ex (f : Int → Int) {l h : Int} (hl : l < h) : ∃ p q, LowS f l h p q := by
  let N := (h - l + 1).toNat
  let L : List (Int × Int) := (List.range N).flatMap fun (i : Nat) => ((List.range N).filter fun j => decide (i < j)).map fun (j : Nat) => (f (l + (j : Int)) - f (l + (i : Int)) - 1, (j : Int) - (i : Int))
  have mem : ∀ e : Int × Int, e ∈ L ↔ ∃ a b, l ≤ a ∧ a < b ∧ b ≤ h ∧ e = (f b - f a - 1, b - a) := by
    intro e
    simp only [L, List.mem_flatMap, List.mem_map, List.mem_filter, List.mem_range, decide_eq_true_eq]
    constructor
    · rintro ⟨i, hi, j, ⟨hj, hij⟩, rfl⟩
      exact ⟨l + i, l + j, by omega, by omega, by omega, by congr 1; omega⟩
    · rintro ⟨a, b, h1, h2, h3, rfl⟩
      refine ⟨(a - l).toNat, by omega, (b - l).toNat, ⟨by omega, by omega⟩, ?_⟩
      rw [show l + ((b - l).toNat : Int) = b by omega, show l + ((a - l).toNat : Int) = a by omega, show ((b - l).toNat : Int) - ((a - l).toNat : Int) = b - a by omega]
  have ne : L ≠ [] := by
    intro z
    have := (mem (f h - f l - 1, h - l)).mpr ⟨l, h, Int.le_refl _, hl, Int.le_refl _, rfl⟩
    rw [z] at this
    simp at this
  obtain ⟨e, he, k⟩ := best_fr L ne fun e he => by
    obtain ⟨a, b, _, h2, _, rfl⟩ := (mem e).mp he
    show 1 ≤ b - a
    omega
  obtain ⟨a, b, h1, h2, h3, rfl⟩ := (mem e).mp he
  have hk : 1 ≤ b - a := by omega
  obtain ⟨g, g0, e1, e2, f1, f2⟩ := fr_ok (p := f b - f a - 1) hk
  have fc := fr_cross (p := f b - f a - 1) hk
  refine ⟨_, _, f1, f2, ⟨a, b, h1, h2, h3, by rw [fc, Int.mul_comm]⟩, fun c d c1 c2 c3 => ?_⟩
  have k1 := k _ ((mem _).mpr ⟨c, d, c1, c2, c3, rfl⟩)
  have k2 : (f d - f c - 1) * (b - a) ≤ (f b - f a - 1) * (d - c) := k1
  generalize (fr (f b - f a - 1) (b - a)).1 = p at *
  generalize (fr (f b - f a - 1) (b - a)).2 = q at *
  refine Int.le_of_mul_le_mul_left (a := g) ?_ g0
  rw [e1, e2] at k2
  grind
theorem slo_exI (x : Tr) {l h : Int} (hl : l < h) : ∃ I, Slo x l h I := by
  obtain ⟨p, q, a⟩ := lowS_ex (vl x) hl
  obtain ⟨p2, q2, b⟩ := lowS_ex (vl (negT x)) hl
  refine ⟨⟨p, q, -p2, q2⟩, a, ?_⟩
  show LowS (vl (negT x)) l h (- -p2) q2
  rw [Int.neg_neg]
  exact b
end Dl
namespace Dl
open PySem L2
section
variable {x : Tr} {l h u v w z0 z1 n0 n1 : Int} (hl : l < h) (g : Agr x (u, w, v) l h) (cp : gcdI u v = 1) (C : Corn u w v l h z0 z1 n0 n1) (W : Wide u v z0 z1 n0 n1)
include hl cp C W
theorem wide_pos : 1 ≤ z1 - n0 ∧ 1 ≤ n1 - z0 := by
  have v1 := C.v1
  obtain ⟨e1, a1, b1, j1, h1⟩ := solve v1 cp 1
  obtain ⟨e2, a2, b2, j2, h2⟩ := solve v1 cp (-1)
  have R := fun n => rs_rng (u := u) (w := w) v1 n
  by_cases c : v = 1
  · have k1 := C.z l (by omega) (by omega) (by have := R l; omega)
    have k2 := C.z h (by omega) (by omega) (by have := R h; omega)
    have k3 := C.o l (by omega) (by omega) (by have := R l; omega)
    have k4 := C.o h (by omega) (by omega) (by have := R h; omega)
    omega
  · have p1 := one_dvd_e (by omega) (.inl rfl) h1 a1
    have p2 := one_dvd_e (by omega) (.inr rfl) h2 a2
    have := W.dn _ _ a1 b1 h1
    have := W.up _ _ a2 b2 h2
    omega
include g
theorem low_corn : LowS (vl x) l h (fr (u * (z1 - n0) - 1) (v * (z1 - n0))).1 (fr (u * (z1 - n0) - 1) (v * (z1 - n0))).2 := by
  have v1 := C.v1
  obtain ⟨wp, _⟩ := wide_pos hl cp C W
  obtain ⟨e1, a1, b1, j1, h1⟩ := solve v1 cp 1
  have hq : 1 ≤ v * (z1 - n0) := by have := Int.mul_le_mul v1 wp (by omega) (by omega); omega
  obtain ⟨gg, g0, c1, c2, f1, f2⟩ := fr_ok (p := u * (z1 - n0) - 1) hq
  have cr := fr_cross (p := u * (z1 - n0) - 1) hq
  generalize hP : (fr (u * (z1 - n0) - 1) (v * (z1 - n0))).1 = P at *
  generalize hQ : (fr (u * (z1 - n0) - 1) (v * (z1 - n0))).2 = Q at *
  have rz := rs_vl g C.i1.1 C.i1.2
  have ro := rs_vl g C.k0.1 C.k0.2
  rw [C.r1] at rz
  rw [C.s0] at ro
  have ee : v * (vl x z1 - vl x n0 - 1) = u * (z1 - n0) - 1 := by rw [Int.mul_sub, Int.mul_sub, Int.mul_one, Int.mul_sub]; omega
  refine ⟨f1, f2, ⟨n0, z1, C.k0.1, by omega, C.i1.2, ?_⟩, fun a b la ab bh => ?_⟩
  · rw [← ee, Int.mul_assoc, Int.mul_left_comm] at cr
    have := Int.eq_of_mul_eq_mul_left (show v ≠ 0 by omega) cr
    rw [this, Int.mul_comm]
  · have ra := rs_vl g la (show a ≤ h by omega)
    have rb := rs_vl g (show l ≤ b by omega) bh
    have k := corn_dn C W a1 b1 h1 la bh
    -- v (fb - fa - 1) = u k - s
    have e2 : v * (vl x b - vl x a - 1) = u * (b - a) - (v + rs u w v b - rs u w v a) := by rw [Int.mul_sub, Int.mul_sub, Int.mul_one, Int.mul_sub]; omega
    generalize hs : v + rs u w v b - rs u w v a = s at *
    generalize hd : z1 - n0 = d at *
    generalize hF : vl x b - vl x a - 1 = F at *
    generalize hk : b - a = kk at *
    -- P v d = (u d - 1) Q ; want Q F <= P kk
    have s1 := Int.mul_le_mul_of_nonneg_left k (show 0 ≤ Q by omega)
    have t1 : v * d * (Q * F) = Q * (d * (u * kk - s)) := by rw [← e2, Int.mul_comm v d, Int.mul_assoc, Int.mul_left_comm v Q F, Int.mul_left_comm d Q]
    have t2 : v * d * (P * kk) = Q * ((u * d - 1) * kk) := by rw [← Int.mul_assoc, Int.mul_comm (v * d) P, cr, Int.mul_comm _ Q, Int.mul_assoc]
    have t3 : Q * (d * (u * kk - s)) = Q * (u * d * kk) - Q * (s * d) := by rw [← Int.mul_sub]; congr 1; rw [Int.mul_sub, Int.mul_comm d s, ← Int.mul_assoc, Int.mul_comm d u]
    have t4 : Q * ((u * d - 1) * kk) = Q * (u * d * kk) - Q * kk := by rw [← Int.mul_sub]; congr 1; rw [Int.sub_mul, Int.one_mul]
    exact Int.le_of_mul_le_mul_left (show v * d * (Q * F) ≤ v * d * (P * kk) by omega) (by omega)
theorem hi_corn (o1 : 1 ≤ x.2.2) : HiS x l h (fr (u * (n1 - z0) + 1) (v * (n1 - z0))).1 (fr (u * (n1 - z0) + 1) (v * (n1 - z0))).2 := by
  have v1 := C.v1
  obtain ⟨_, wp⟩ := wide_pos hl cp C W
  obtain ⟨e1, a1, b1, j1, h1⟩ := solve v1 cp (-1)
  have hq : 1 ≤ v * (n1 - z0) := by have := Int.mul_le_mul v1 wp (by omega) (by omega); omega
  obtain ⟨gg, g0, c1, c2, f1, f2⟩ := fr_ok (p := u * (n1 - z0) + 1) hq
  have cr := fr_cross (p := u * (n1 - z0) + 1) hq
  unfold HiS
  generalize hP : (fr (u * (n1 - z0) + 1) (v * (n1 - z0))).1 = P at *
  generalize hQ : (fr (u * (n1 - z0) + 1) (v * (n1 - z0))).2 = Q at *
  have rz := rs_vl g C.k1.1 C.k1.2
  have ro := rs_vl g C.i0.1 C.i0.2
  rw [C.s1] at rz
  rw [C.r0] at ro
  have ee : v * (vl x n1 - vl x z0 + 1) = u * (n1 - z0) + 1 := by rw [Int.mul_add, Int.mul_sub, Int.mul_one, Int.mul_sub]; omega
  refine ⟨f1, by rw [gcdI_neg]; exact f2, ⟨z0, n1, C.i0.1, by omega, C.k1.2, ?_⟩, fun a b la ab bh => ?_⟩
  · rw [vl_neg o1, vl_neg o1, show -vl x n1 - -vl x z0 - 1 = -(vl x n1 - vl x z0 + 1) by omega, Int.mul_neg, Int.neg_mul]
    rw [← ee, Int.mul_assoc, Int.mul_left_comm] at cr
    have := Int.eq_of_mul_eq_mul_left (show v ≠ 0 by omega) cr
    rw [this, Int.mul_comm]
  · rw [vl_neg o1, vl_neg o1, show -vl x b - -vl x a - 1 = -(vl x b - vl x a + 1) by omega, Int.mul_neg, Int.neg_mul]
    have ra := rs_vl g la (show a ≤ h by omega)
    have rb := rs_vl g (show l ≤ b by omega) bh
    have k := corn_up C W a1 b1 h1 la bh
    have e2 : v * (vl x b - vl x a + 1) = u * (b - a) + (v + rs u w v a - rs u w v b) := by rw [Int.mul_add, Int.mul_sub, Int.mul_one, Int.mul_sub]; omega
    generalize hs : v + rs u w v a - rs u w v b = s at *
    generalize hd : n1 - z0 = d at *
    generalize hF : vl x b - vl x a + 1 = F at *
    generalize hk : b - a = kk at *
    have s1 := Int.mul_le_mul_of_nonneg_left k (show 0 ≤ Q by omega)
    have t1 : v * d * (Q * F) = Q * (d * (u * kk + s)) := by rw [← e2, Int.mul_comm v d, Int.mul_assoc, Int.mul_left_comm v Q F, Int.mul_left_comm d Q]
    have t2 : v * d * (P * kk) = Q * ((u * d + 1) * kk) := by rw [← Int.mul_assoc, Int.mul_comm (v * d) P, cr, Int.mul_comm _ Q, Int.mul_assoc]
    have t3 : Q * (d * (u * kk + s)) = Q * (u * d * kk) + Q * (s * d) := by rw [← Int.mul_add]; congr 1; rw [Int.mul_add, Int.mul_comm d s, ← Int.mul_assoc, Int.mul_comm d u]
    have t4 : Q * ((u * d + 1) * kk) = Q * (u * d * kk) + Q * kk := by rw [← Int.mul_add]; congr 1; rw [Int.add_mul, Int.one_mul]
    have := Int.le_of_mul_le_mul_left (show v * d * (P * kk) ≤ v * d * (Q * F) by omega) (by omega)
    omega
end
end Dl
namespace Dl
open PySem L2
theorem Corn.sub {u w v l h z0 z1 n0 n1 a b : Int} (C : Corn u w v l h z0 z1 n0 n1) (la : l ≤ a) (bh : b ≤ h) (hz : a ≤ z0 ∧ z1 ≤ b) (hn : a ≤ n0 ∧ n1 ≤ b) : Corn u w v a b z0 z1 n0 n1 := by
  have k1 := C.z z0 C.i0.1 C.i0.2 C.r0
  have k2 := C.o n0 C.k0.1 C.k0.2 C.s0
  refine ⟨C.v1, ⟨by omega, by omega⟩, ⟨by omega, by omega⟩, ⟨by omega, by omega⟩, ⟨by omega, by omega⟩, C.r0, C.r1, C.s0, C.s1, fun n h1 h2 => C.z n (by omega) (by omega), fun n h1 h2 => C.o n (by omega) (by omega)⟩
section
variable {x : Tr} {l h u v w z0 z1 n0 n1 : Int} {I : Iv} (hl : l < h) (x1 : 1 ≤ x.2.2) (sI : Slo x l h I) (s : SB I u v) (g : Agr x (u, w, v) l h) (C : Corn u w v l h z0 z1 n0 n1) (W : Wide u v z0 z1 n0 n1)
include hl x1 sI s g C W
theorem slo_corn : I = ⟨(fr (u * (z1 - n0) - 1) (v * (z1 - n0))).1, (fr (u * (z1 - n0) - 1) (v * (z1 - n0))).2, (fr (u * (n1 - z0) + 1) (v * (n1 - z0))).1, (fr (u * (n1 - z0) + 1) (v * (n1 - z0))).2⟩ :=
  sI.uniq ⟨low_corn hl g s.cop C W, hi_corn hl g s.cop C W x1⟩
theorem slo_sub {a b : Int} (ab : a < b) (la : l ≤ a) (bh : b ≤ h) (hz : a ≤ z0 ∧ z1 ≤ b) (hn : a ≤ n0 ∧ n1 ≤ b) : Slo x a b I := by
  have C2 := C.sub la bh hz hn
  have g2 : Agr x (u, w, v) a b := g.sub la bh
  rw [slo_corn hl x1 sI s g C W]
  exact ⟨low_corn ab g2 s.cop C2 W, hi_corn ab g2 s.cop C2 W x1⟩
end
theorem Tests.sub {x : Tr} {l h a b : Int} {ts ms : List Int} (hl : l < h) (x1 : 1 ≤ x.2.2) (t : Tests x l h ts) (r : Tests x a b ms) (ab : a < b) (la : l ≤ a) (bh : b ≤ h) (hin : ∀ n ∈ ts, a ≤ n ∧ n ≤ b) : ms = ts := by
  obtain ⟨I, u, v, z0, z1, n0, n1, sI, s, L, e⟩ := t.of
  have g := sI.agr x1 (by omega) s.mem
  obtain ⟨C, W⟩ := L.corn sI s g x1 (by omega)
  have i0 := hin z0 ((e _).mpr (by simp))
  have i1 := hin z1 ((e _).mpr (by simp))
  have i2 := hin n0 ((e _).mpr (by simp))
  have i3 := hin n1 ((e _).mpr (by simp))
  have sI2 := slo_sub hl x1 sI s g C W ab la bh ⟨i0.1, i1.2⟩ ⟨i2.1, i3.2⟩
  obtain ⟨y0, y1, m0, m1, C2, W2, e2⟩ := r.corn sI2 s (g.sub la bh) x1 (by omega)
  obtain ⟨rfl, rfl, rfl, rfl⟩ := (C.sub la bh ⟨i0.1, i1.2⟩ ⟨i2.1, i3.2⟩).uniq C2
  exact asc_eq r.asc t.asc fun k => by rw [e k, e2 k]
theorem Slo.sub {x : Tr} {l h a b : Int} {I J : Iv} {ts : List Int} (hl : l < h) (x1 : 1 ≤ x.2.2) (t : Tests x l h ts) (sI : Slo x l h I) (sJ : Slo x a b J) (ab : a < b) (la : l ≤ a) (bh : b ≤ h) (hin : ∀ n ∈ ts, a ≤ n ∧ n ≤ b) : J = I := by
  obtain ⟨I', u, v, z0, z1, n0, n1, sI', s, L, e⟩ := t.of
  obtain rfl := sI.uniq sI'
  have g := sI.agr x1 (by omega) s.mem
  obtain ⟨C, W⟩ := L.corn sI s g x1 (by omega)
  have i0 := hin z0 ((e _).mpr (by simp))
  have i1 := hin z1 ((e _).mpr (by simp))
  have i2 := hin n0 ((e _).mpr (by simp))
  have i3 := hin n1 ((e _).mpr (by simp))
  exact sJ.uniq (slo_sub hl x1 sI s g C W ab la bh ⟨i0.1, i1.2⟩ ⟨i2.1, i3.2⟩)
end Dl
namespace Dl
open PySem L2
theorem pow_sm {b : Int} (b0 : 0 ≤ b) (b1 : b ≤ 36) : ∀ k : Nat, Sm (6 * k + 1) (b ^ k)
  | 0 => by show Sm 1 (b ^ 0); rw [Int.pow_zero]; decide
  | k + 1 => by
    rw [Int.pow_succ]
    have h : Sm 6 b := sm_of (by omega) (by omega)
    exact (Sm.mul (pow_sm b0 b1 k) h).mono (by omega)
theorem pow_one_le {b : Int} (b1 : 1 ≤ b) : ∀ k : Nat, 1 ≤ b ^ k
  | 0 => by rw [Int.pow_zero]; omega
  | k + 1 => by
    rw [Int.pow_succ]
    have := Int.mul_le_mul (pow_one_le b1 k) b1 (by omega) (by have := pow_one_le b1 k; omega)
    omega
theorem pow_sq (b : Int) (k : Nat) : (b * b) ^ k = b ^ (2 * k) := by
  induction k with
  | zero => simp
  | succ k ih => rw [Int.pow_succ, ih, show 2 * (k + 1) = 2 * k + 1 + 1 by omega, Int.pow_succ, Int.pow_succ, Int.mul_assoc]
theorem pow_half {F B : Int} (E : Nat) : (if E % 2 = 1 then F * B else F) * (B * B) ^ (E / 2) = F * B ^ E := by
  rw [pow_sq]
  by_cases h : E % 2 = 1
  · rw [if_pos h, Int.mul_assoc, Int.mul_comm B, ← Int.pow_succ, show Nat.succ (2 * (E / 2)) = E by omega]
  · rw [if_neg h, show 2 * (E / 2) = E by omega]
theorem pow_bound {F B : Int} {E : Nat} (F1 : 1 ≤ F) (B1 : 1 ≤ B) : F ≤ F * B ^ E ∧ (0 < E → B ≤ F * B ^ E) := by
  have p := pow_one_le B1 E
  constructor
  · have := Int.mul_le_mul_of_nonneg_left p (show 0 ≤ F by omega)
    omega
  · intro h
    obtain ⟨e, rfl⟩ : ∃ e, E = e + 1 := ⟨E - 1, by omega⟩
    have q := pow_one_le B1 e
    rw [Int.pow_succ]
    have h1 := Int.mul_le_mul_of_nonneg_right q (show 0 ≤ B by omega)
    have h2 := Int.mul_le_mul_of_nonneg_right F1 (show 0 ≤ B ^ e * B by have := Int.mul_nonneg (show 0 ≤ B ^ e by omega) (show 0 ≤ B by omega); omega)
    omega
def lwM (p q s : Int) : Int := p * s / q + 1
def moM (p q s : Int) : Int := -(-p * s / q) - 1
theorem lwM_iff {p q s m : Int} (q1 : 1 ≤ q) : lwM p q s ≤ m ↔ p * s < m * q := by
  unfold lwM
  have a := Int.ediv_lt_iff_lt_mul (a := p * s) (b := m) (c := q) (by omega)
  omega
theorem moM_iff {p q s m : Int} (q1 : 1 ≤ q) : m ≤ moM p q s ↔ m * q < p * s := by
  unfold moM
  have a := Int.ediv_lt_iff_lt_mul (a := -p * s) (b := -m) (c := q) (by omega)
  rw [Int.neg_mul, Int.neg_mul] at a
  rw [Int.neg_mul]
  omega
theorem in_iff {I : Iv} {m s : Int} (ok : IOk I) (s1 : 1 ≤ s) : InI I m s ↔ lwM I.p1 I.q1 s ≤ m ∧ m ≤ moM I.p2 I.q2 s := by
  rw [lwM_iff ok.q1, moM_iff ok.q2]
  exact ⟨fun h => ⟨h.lo, h.hi⟩, fun h => ⟨s1, h.1, h.2⟩⟩
theorem in_ex {I : Iv} {s : Int} (ok : IOk I) (h : I.q1 * I.q2 < s) : ∃ m, InI I m s := by
  have q1 := ok.q1
  have q2 := ok.q2
  have lt := ok.lt
  have qq : 1 ≤ I.q1 * I.q2 := by have := Int.mul_le_mul q1 q2 (by omega) (by omega); omega
  refine ⟨lwM I.p1 I.q1 s, (in_iff ok (by omega)).mpr ⟨Int.le_refl _, (moM_iff q2).mpr ?_⟩⟩
  have a := Int.mul_ediv_add_emod (I.p1 * s) I.q1
  have b := Int.emod_nonneg (I.p1 * s) (show I.q1 ≠ 0 by omega)
  have e1 : I.q1 * lwM I.p1 I.q1 s ≤ I.p1 * s + I.q1 := by
    unfold lwM
    rw [Int.mul_add, Int.mul_one]
    omega
  have e2 := Int.mul_le_mul_of_nonneg_right e1 (show 0 ≤ I.q2 by omega)
  rw [Int.add_mul] at e2
  have e3 := Int.mul_le_mul_of_nonneg_right (show I.p1 * I.q2 + 1 ≤ I.p2 * I.q1 by omega) (show 0 ≤ s by omega)
  rw [Int.add_mul, Int.one_mul] at e3
  have e4 : I.p1 * s * I.q2 = I.p1 * I.q2 * s := Int.mul_right_comm _ _ _
  have e5 : I.q1 * lwM I.p1 I.q1 s * I.q2 = I.q1 * (lwM I.p1 I.q1 s * I.q2) := Int.mul_assoc _ _ _
  have e6 : I.p2 * I.q1 * s = I.q1 * (I.p2 * s) := by rw [Int.mul_comm I.p2, Int.mul_assoc]
  exact Int.lt_of_mul_lt_mul_left (show I.q1 * (lwM I.p1 I.q1 s * I.q2) < I.q1 * (I.p2 * s) by omega) (by omega)
def NoS (I : Iv) (b : Int) (k : Nat) : Prop := ∀ j < k, ∀ m, ¬ InI I m (b ^ j)
structure LstR (I : Iv) (b m : Int) (k : Nat) : Prop where
  mem : InI I m (b ^ k)
  min : ∀ m', InI I m' (b ^ k) → m ≤ m'
  low : NoS I b k
theorem LstR.uniq {I : Iv} {b m m' : Int} {k k' : Nat} (a : LstR I b m k) (c : LstR I b m' k') : m = m' ∧ k = k' := by
  have e : k = k' := by
    rcases Nat.lt_trichotomy k k' with h | h | h
    · exact absurd a.mem (c.low k h m)
    · exact h
    · exact absurd c.mem (a.low k' h m')
  subst e
  have h1 := a.min _ c.mem
  have h2 := c.min _ a.mem
  exact ⟨by omega, rfl⟩
theorem NoS.sm {I : Iv} {b : Int} {k : Nat} (ok : IOk I) (s1 : Sm 501 I.q1) (s2 : Sm 501 I.q2) (b2 : 2 ≤ b) (b1 : b ≤ 36) (n : NoS I b k) : Sm 1008 (b ^ k) ∧ k ≤ 1003 := by
  have q1 := ok.q1
  have q2 := ok.q2
  have qq : 1 ≤ I.q1 * I.q2 := by have := Int.mul_le_mul q1 q2 (by omega) (by omega); omega
  cases k with
  | zero => exact ⟨by rw [Int.pow_zero]; exact (show Sm 1 1 by decide).mono (by decide), by omega⟩
  | succ j =>
    have h : b ^ j ≤ I.q1 * I.q2 := by
      rcases Int.lt_or_le (I.q1 * I.q2) (b ^ j) with c | c
      · obtain ⟨m, hm⟩ := in_ex ok c
        exact absurd hm (n j (by omega) m)
      · exact c
    have sj : Sm 1002 (b ^ j) := (Sm.mul s1 s2).le (by have := pow_one_le (show 1 ≤ b by omega) j; omega) h
    refine ⟨?_, ?_⟩
    · rw [Int.pow_succ]
      have h6 : Sm 6 b := sm_of (by omega) (by omega)
      exact Sm.mul sj h6
    · have h1 : (2 : Int) ^ j ≤ b ^ j := by
        clear h sj n
        induction j with
        | zero => simp
        | succ j ih =>
          rw [Int.pow_succ, Int.pow_succ]
          exact Int.mul_le_mul ih b2 (by omega) (by have := pow_one_le (show 1 ≤ b by omega) j; omega)
      have h2 := sj.lt
      rcases Nat.lt_or_ge j 1002 with c | c
      · omega
      · have := pow_le c
        omega
end Dl
namespace Dl
open PySem L2
theorem sb_ex : ∀ (n : Nat) (I : Iv), IOk I → I.q1 + I.q2 ≤ n → ∃ u v, SB I u v
  | 0, I, k, h => by have := k.q1; have := k.q2; omega
  | n + 1, I, k, h => by
    by_cases c : (I.w + 1) * I.q2 < I.p2
    · exact ⟨_, _, sb_one k c⟩
    · by_cases z : I.lt = 0
      · exact ⟨_, _, sb_zero k z⟩
      · have f := k.fl
        have hq : I.ht ≤ I.q2 := by unfold Iv.ht; rw [Int.add_mul, Int.one_mul] at c; omega
        obtain ⟨c, d, s⟩ := sb_ex n I.inn (inn_ok k (by omega)) (by show I.ht + I.lt ≤ n; omega)
        exact ⟨_, _, sb_step k s⟩
end Dl
namespace Dl
open PySem L2
abbrev Co := Int × Int × Nat
def coD (e : Co) : D := .tup [.int e.1, .int e.2.1, .int e.2.2]
theorem half_agr {x y : Tr} {l h u v w z0 z1 n0 n1 : Int} (g : Agr x (u, w, v) l h) (cp : gcdI u v = 1) (C : Corn u w v l h z0 z1 n0 n1) (W : Wide u v z0 z1 n0 n1) (o1 : 1 ≤ y.2.2)
    (t0 : y.2.2 * vl x z0 ≤ y.1 * z0 + y.2.1) (t1 : y.2.2 * vl x z1 ≤ y.1 * z1 + y.2.1) (t2 : y.1 * n0 + y.2.1 < y.2.2 * (vl x n0 + 1)) (t3 : y.1 * n1 + y.2.1 < y.2.2 * (vl x n1 + 1)) : Agr x y l h := by
  have v1 := C.v1
  obtain ⟨e1, a1, b1, j1, h1⟩ := solve v1 cp 1
  obtain ⟨e2, a2, b2, j2, h2⟩ := solve v1 cp (-1)
  have key : ∀ n f r, u * n + w = v * f + r → (y.1 * v - u * y.2.2) * n + (y.2.1 * v - w * y.2.2) = v * (y.1 * n + y.2.1 - y.2.2 * f) - r * y.2.2 := fun n f r e => by grind
  have r0 := rs_vl g C.i0.1 C.i0.2
  have r1 := rs_vl g C.i1.1 C.i1.2
  have r2 := rs_vl g C.k0.1 C.k0.2
  have r3 := rs_vl g C.k1.1 C.k1.2
  rw [C.r0] at r0
  rw [C.r1] at r1
  rw [C.s0] at r2
  rw [C.s1] at r3
  have k0 := key _ _ _ r0
  have k1 := key _ _ _ r1
  have k2 := key _ _ _ r2
  have k3 := key _ _ _ r3
  have lo : ∀ n f, y.2.2 * f ≤ y.1 * n + y.2.1 → 0 ≤ v * (y.1 * n + y.2.1 - y.2.2 * f) := fun n f h => Int.mul_nonneg (by omega) (by omega)
  have hi : ∀ n f, y.1 * n + y.2.1 < y.2.2 * (f + 1) → v * (y.1 * n + y.2.1 - y.2.2 * f) ≤ v * (y.2.2 - 1) := fun n f h => by
    rw [Int.mul_add, Int.mul_one] at h
    exact Int.mul_le_mul_of_nonneg_left (by omega) (by omega)
  have q0 := lo _ _ t0
  have q1 := lo _ _ t1
  have q2 := hi _ _ t2
  have q3 := hi _ _ t3
  have eo : v * (y.2.2 - 1) - (v - 1) * y.2.2 < y.2.2 := by rw [Int.mul_sub, Int.sub_mul]; omega
  intro n nl nh
  exact (at_iff (y := y) v1 o1 (rs_vl g nl nh)).mpr (corn_line C W o1 a1 b1 h1 a2 b2 h2 (by omega) (by omega) (by omega) (by omega) nl nh)
structure Bnd (x : Tr) (l h : Int) (zs os : List Int) : Prop where
  zr : ∀ n ∈ zs, l ≤ n ∧ n ≤ h
  or' : ∀ n ∈ os, l ≤ n ∧ n ≤ h
  iff : ∀ u w v, 1 ≤ v → (Agr x (u, w, v) l h ↔ (∀ n ∈ zs, v * vl x n ≤ u * n + w) ∧ ∀ n ∈ os, u * n + w < v * (vl x n + 1))
  two : ((∃ z ∈ zs, ∃ o ∈ os, o < z) ∧ ∃ z ∈ zs, ∃ o ∈ os, z < o) ∨ zs = os
  ne : zs ≠ []
theorem agr_bd {x : Tr} {l h u w v n : Int} (v1 : 1 ≤ v) (g : Agr x (u, w, v) l h) (n1 : l ≤ n) (n2 : n ≤ h) : v * vl x n ≤ u * n + w ∧ u * n + w < v * (vl x n + 1) := by
  have k := (vl_iff (y := (u, w, v)) (n := n) (v := vl x n) v1).mp (g n n1 n2).symm
  simp only at k
  rw [Int.mul_add, Int.mul_one]
  omega
theorem bnd_one (x : Tr) (l : Int) : Bnd x l l [l] [l] := by
  refine ⟨fun n h => by simp at h; omega, fun n h => by simp at h; omega, fun u w v v1 => ⟨fun g => ?_, fun ⟨a, b⟩ => fun n n1 n2 => ?_⟩, .inr rfl, by simp⟩
  · have := agr_bd v1 g (Int.le_refl _) (Int.le_refl _)
    exact ⟨fun n h => by simp at h; subst h; exact this.1, fun n h => by simp at h; subst h; exact this.2⟩
  · obtain rfl : n = l := by omega
    have a := a n (by simp)
    have b := b n (by simp)
    refine ((vl_iff (y := (u, w, v)) (n := n) (v := vl x n) v1).mpr ?_).symm
    simp only
    rw [Int.mul_add, Int.mul_one] at b
    omega
theorem bnd_lean {x : Tr} {l h u v z0 z1 o0 o1 : Int} {I : Iv} (x1 : 1 ≤ x.2.2) (hl : l < h) (a : Slo x l h I) (s : SB I u v) (L : Lean x l h u v z0 z1 o0 o1) : Bnd x l h [z0, z1] [o0, o1] := by
  have g := a.agr x1 (Int.le_of_lt hl) s.mem
  obtain ⟨C, W⟩ := L.corn a s g x1 (Int.le_of_lt hl)
  obtain ⟨w1, w2⟩ := wide_pos hl s.cop C W
  refine ⟨fun n hn => ?_, fun n hn => ?_, fun u' w' v' v1 => ⟨fun ag => ⟨fun n hn => ?_, fun n hn => ?_⟩, fun ⟨A, B⟩ => ?_⟩, .inl ⟨⟨z1, by simp, o0, by simp, by omega⟩, z0, by simp, o1, by simp, by omega⟩, by simp⟩
  · simp at hn; rcases hn with rfl | rfl
    · exact C.i0
    · exact C.i1
  · simp at hn; rcases hn with rfl | rfl
    · exact C.k0
    · exact C.k1
  · simp at hn; rcases hn with rfl | rfl
    · exact (agr_bd v1 ag C.i0.1 C.i0.2).1
    · exact (agr_bd v1 ag C.i1.1 C.i1.2).1
  · simp at hn; rcases hn with rfl | rfl
    · exact (agr_bd v1 ag C.k0.1 C.k0.2).2
    · exact (agr_bd v1 ag C.k1.1 C.k1.2).2
  · exact half_agr (y := (u', w', v')) g s.cop C W v1 (A _ (by simp)) (A _ (by simp)) (B _ (by simp)) (B _ (by simp))
def OkP (P : List Pc) (u w v : Int) : Prop := ∀ p ∈ P, Agr p.1 (u, w, v) p.2.1 p.2.2
def SlP (P : List Pc) (u v : Int) : Prop := ∃ w, OkP P u w v
structure CorN (P : List Pc) (i : Nat) (L U : List Co) : Prop where
  lm : ∀ e ∈ L, e.2.2 < i ∧ ∃ p, P[e.2.2]? = some p ∧ p.2.1 ≤ e.1 ∧ e.1 ≤ p.2.2 ∧ e.2.1 = vl p.1 e.1
  um : ∀ e ∈ U, e.2.2 < i ∧ ∃ p, P[e.2.2]? = some p ∧ p.2.1 ≤ e.1 ∧ e.1 ≤ p.2.2 ∧ e.2.1 = vl p.1 e.1
  iff : ∀ u w v, 1 ≤ v → ((∀ j < i, ∀ p, P[j]? = some p → Agr p.1 (u, w, v) p.2.1 p.2.2) ↔ (∀ e ∈ L, v * e.2.1 ≤ u * e.1 + w) ∧ ∀ e ∈ U, u * e.1 + w < v * (e.2.1 + 1))
  two : ((∃ e ∈ L, ∃ d ∈ U, d.1 < e.1) ∧ ∃ e ∈ L, ∃ d ∈ U, e.1 < d.1) ∨ L = U
  ne : 1 ≤ i → L ≠ []
  ln : L.length ≤ 2 * i
  un : U.length ≤ 2 * i
theorem CorN.zero (P : List Pc) : CorN P 0 [] [] := ⟨fun e h => by simp at h, fun e h => by simp at h, fun u w v _ => ⟨fun _ => ⟨fun e h => by simp at h, fun e h => by simp at h⟩, fun _ j hj => by omega⟩, .inr rfl, fun h => by omega, by simp, by simp⟩
theorem CorN.step {P : List Pc} {i : Nat} {L U : List Co} (c : CorN P i L U) {p : Pc} (hp : P[i]? = some p) {zs os : List Int} (b : Bnd p.1 p.2.1 p.2.2 zs os) (lz : zs.length ≤ 2) (lo : os.length ≤ 2) :
    CorN P (i + 1) (L ++ zs.map fun n => (n, vl p.1 n, i)) (U ++ os.map fun n => (n, vl p.1 n, i)) := by
  refine ⟨fun e h => ?_, fun e h => ?_, fun u w v v1 => ?_, ?_, fun _ z => ?_, by simp; have := c.ln; omega, by simp; have := c.un; omega⟩
  · rcases List.mem_append.mp h with h | h
    · obtain ⟨a, b⟩ := c.lm e h; exact ⟨by omega, b⟩
    · obtain ⟨n, hn, rfl⟩ := List.mem_map.mp h
      exact ⟨Nat.lt_succ_self _, p, hp, (b.zr n hn).1, (b.zr n hn).2, rfl⟩
  · rcases List.mem_append.mp h with h | h
    · obtain ⟨a, b⟩ := c.um e h; exact ⟨by omega, b⟩
    · obtain ⟨n, hn, rfl⟩ := List.mem_map.mp h
      exact ⟨Nat.lt_succ_self _, p, hp, (b.or' n hn).1, (b.or' n hn).2, rfl⟩
  · have k := c.iff u w v v1
    have k2 := b.iff u w v v1
    constructor
    · intro a
      obtain ⟨q1, q2⟩ := k.mp fun j hj => a j (by omega)
      obtain ⟨q3, q4⟩ := k2.mp (a i (Nat.lt_succ_self _) p hp)
      refine ⟨fun e h => ?_, fun e h => ?_⟩
      · rcases List.mem_append.mp h with h | h
        · exact q1 e h
        · obtain ⟨n, hn, rfl⟩ := List.mem_map.mp h; exact q3 n hn
      · rcases List.mem_append.mp h with h | h
        · exact q2 e h
        · obtain ⟨n, hn, rfl⟩ := List.mem_map.mp h; exact q4 n hn
    · rintro ⟨q1, q2⟩ j hj q hq
      rcases Nat.lt_or_ge j i with z | z
      · exact k.mpr ⟨fun e h => q1 e (List.mem_append_left _ h), fun e h => q2 e (List.mem_append_left _ h)⟩ j z q hq
      · obtain rfl : j = i := by omega
        obtain rfl : p = q := Option.some.inj (hp.symm.trans hq)
        exact k2.mpr ⟨fun n h => q1 _ (List.mem_append_right _ (List.mem_map.mpr ⟨n, h, rfl⟩)), fun n h => q2 _ (List.mem_append_right _ (List.mem_map.mpr ⟨n, h, rfl⟩))⟩
  · rcases c.two with ⟨⟨e, he, d, hd, t⟩, e', he', d', hd', t'⟩ | eq
    · exact .inl ⟨⟨e, List.mem_append_left _ he, d, List.mem_append_left _ hd, t⟩, e', List.mem_append_left _ he', d', List.mem_append_left _ hd', t'⟩
    · rcases b.two with ⟨⟨z, hz, o, ho, t⟩, z', hz', o', ho', t'⟩ | eq2
      · exact .inl ⟨⟨_, List.mem_append_right _ (List.mem_map.mpr ⟨z, hz, rfl⟩), _, List.mem_append_right _ (List.mem_map.mpr ⟨o, ho, rfl⟩), t⟩, _, List.mem_append_right _ (List.mem_map.mpr ⟨z', hz', rfl⟩), _, List.mem_append_right _ (List.mem_map.mpr ⟨o', ho', rfl⟩), t'⟩
      · exact .inr (by rw [eq, eq2])
  · have := (List.append_eq_nil_iff.mp z).2
    exact b.ne (List.map_eq_nil_iff.mp this)
end Dl
namespace Dl
open PySem L2
abbrev Kpt := List (Str × Pc)
def kKs (kv : Kpt) : List Key := kv.map fun p => Sum.inr p.1
def kDs (kv : Kpt) : List D := kv.map fun p => pcD p.2
def lkp (kv : Kpt) (n : Str) : Option Pc := (kv.find? fun p => decide (p.1 = n)).map (·.2)
def oldD : Option Pc → D
  | none => .non
  | some e => pcD e
theorem pure_oldD : ∀ e : Option Pc, pureD (oldD e) = true
  | none => rfl
  | some _ => rfl
theorem pure_kDs : ∀ kv : Kpt, pureL (kDs kv) = true
  | [] => rfl
  | _ :: r => by
    show (true && pureL (kDs r)) = true
    rw [pure_kDs r]; rfl
theorem kKs_len (kv : Kpt) : (kKs kv).length = (kDs kv).length := by unfold kKs kDs; simp
theorem lkp_cons {p : Str × Pc} {kv : Kpt} {n : Str} : lkp (p :: kv) n = if p.1 = n then some p.2 else lkp kv n := by
  unfold lkp
  rw [List.find?_cons]
  by_cases h : p.1 = n
  · simp [h]
  · simp [h]
theorem lkp_nil {n : Str} : lkp [] n = none := rfl
theorem dVal_kept : ∀ (kv : Kpt) (n : Str), dVal (kKs kv) (kDs kv) (.inr n) = (lkp kv n).map pcD
  | [], _ => rfl
  | p :: r, n => by
    show dVal (Sum.inr p.1 :: kKs r) (pcD p.2 :: kDs r) (Sum.inr n) = _
    rw [dVal_cons, dVal_kept r n, lkp_cons]
    by_cases h : p.1 = n
    · rw [if_pos h, if_pos (by rw [h])]; rfl
    · rw [if_neg h, if_neg (fun z => h (by injection z))]
theorem lkp_mem : ∀ {kv : Kpt} {n : Str}, (lkp kv n).isSome = true ↔ n ∈ kv.map (·.1)
  | [], n => by simp [lkp_nil]
  | p :: r, n => by
    rw [lkp_cons, List.map_cons, List.mem_cons]
    by_cases h : p.1 = n
    · simp [h]
    · rw [if_neg h, lkp_mem (kv := r)]
      exact ⟨.inr, fun q => q.elim (fun q => absurd q.symm h) id⟩
theorem dVal_putD {α : Type} {k x : Key} {d : α} : ∀ {ks : List Key} {ds : List α}, ks.length = ds.length → dVal (putKs ks k) (putDs ks ds k d) x = if x = k then some d else dVal ks ds x := by
  intro ks ds hl
  unfold putKs putDs
  by_cases hk : hasK ks k = true
  · rw [if_pos hk, if_pos hk]
    have main : ∀ {ks : List Key} {ds : List α}, ks.length = ds.length → (x = k → k ∈ ks) → dVal ks (repL ks ds k d) x = if x = k then some d else dVal ks ds x := by
      intro ks
      induction ks with
      | nil =>
        intro ds _ hm
        by_cases e : x = k
        · exact absurd (hm e) (by simp)
        · rw [if_neg e]; rfl
      | cons y r ih =>
        intro ds hl hm
        match ds, hl with
        | z :: t, hl =>
          show dVal (y :: r) ((if y = k then d else z) :: repL r t k d) x = _
          rw [dVal_cons, dVal_cons]
          by_cases q : y = x
          · rw [if_pos q, if_pos q]
            by_cases e : x = k
            · rw [if_pos (q.trans e), if_pos e]
            · rw [if_neg (fun z => e (q.symm.trans z)), if_neg e]
          · rw [if_neg q, if_neg q]
            exact ih (by simpa using hl) fun e => by
              rcases List.mem_cons.mp (hm e) with h | h
              · exact absurd (h.symm.trans e.symm) q
              · exact h
    exact main hl fun _ => hasK_iff.mp hk
  · rw [if_neg hk, if_neg hk]
    have main : ∀ {ks : List Key} {ds : List α}, ks.length = ds.length → k ∉ ks → dVal (ks ++ [k]) (ds ++ [d]) x = if x = k then some d else dVal ks ds x := by
      intro ks
      induction ks with
      | nil =>
        intro ds hl _
        match ds, hl with
        | [], _ =>
          show dVal [k] [d] x = _
          rw [dVal_cons]
          by_cases e : x = k
          · rw [if_pos e.symm, if_pos e]
          · rw [if_neg (fun z => e z.symm), if_neg e]
      | cons y r ih =>
        intro ds hl hm
        match ds, hl with
        | z :: t, hl =>
          show dVal (y :: (r ++ [k])) (z :: (t ++ [d])) x = _
          rw [dVal_cons, dVal_cons]
          by_cases q : y = x
          · rw [if_pos q, if_pos q, if_neg (fun e => hm (by rw [← e, ← q]; exact List.mem_cons_self))]
          · rw [if_neg q, if_neg q]
            exact ih (by simpa using hl) fun h => hm (List.mem_cons_of_mem _ h)
    exact main hl fun h => hk (hasK_iff.mpr h)
def sle (a b : Str) : Prop := a.cps.toList ≤ b.cps.toList
theorem sle_of {a b : Str} (h : (!PySem.Spec.ltCps b.cps.toList a.cps.toList) = true) : sle a b := by
  rw [PyProof.Rows.ltCps_eq] at h
  have h : ¬ b.cps.toList < a.cps.toList := by simpa using h
  exact List.not_lt.mp h
theorem sle_trans {a b c : Str} (h1 : sle a b) (h2 : sle b c) : sle a c := List.le_trans h1 h2
theorem rising_pw : ∀ {p : Str} {r : List Str}, PyProof.Rows.risingS p r = true → (p :: r).Pairwise sle
  | p, [], _ => by simp
  | p, x :: r, h => by
    unfold PyProof.Rows.risingS at h
    obtain ⟨h1, h2⟩ := He.ba h
    have q := rising_pw h2
    have a := sle_of h1
    refine List.pairwise_cons.mpr ⟨fun y hy => ?_, q⟩
    rcases List.mem_cons.mp hy with rfl | hy
    · exact a
    · exact sle_trans a ((List.pairwise_cons.mp q).1 y hy)
theorem sorted_pw {r : List Str} (h : PyProof.Rows.sortedS r = true) : r.Pairwise sle := by
  cases r with
  | nil => exact .nil
  | cons x r => exact rising_pw h
structure KOk (kv : Kpt) : Prop where
  nd : (kv.map (·.1)).Nodup
  so : (kv.map (·.1)).Pairwise sle
theorem kOk_nil : KOk [] := ⟨by simp, by simp⟩
structure SetTo (kv : Kpt) (n : Str) (fo : Option Pc) (kv' : Kpt) : Prop where
  ok : KOk kv'
  at_ : ∀ m, lkp kv' m = if m = n then fo else lkp kv m
  len : kv'.length ≤ kv.length + 1
theorem put_names (kv : Kpt) (n : Str) : ∃ ss : List Str, putKs (kKs kv) (.inr n) = ss.map Sum.inr ∧ ((kv.map (·.1)).Nodup → ss.Nodup) ∧ ss.length ≤ kv.length + 1 ∧ ∀ m, m ∈ ss ↔ m = n ∨ m ∈ kv.map (·.1) := by
  have e0 : kKs kv = (kv.map (·.1)).map Sum.inr := by unfold kKs; rw [List.map_map]; rfl
  have hin : hasK (kKs kv) (.inr n) = true ↔ n ∈ kv.map (·.1) := by
    rw [hasK_iff, e0]
    constructor
    · intro h
      obtain ⟨m, hm, e⟩ := List.mem_map.mp h
      injection e with e
      rw [← e]; exact hm
    · intro h; exact List.mem_map_of_mem h
  unfold putKs
  by_cases h : hasK (kKs kv) (.inr n) = true
  · rw [if_pos h]
    exact ⟨kv.map (·.1), e0, id, by simp, fun m => ⟨.inr, fun q => q.elim (fun q => q ▸ hin.mp h) id⟩⟩
  · rw [if_neg h]
    refine ⟨kv.map (·.1) ++ [n], by rw [e0, List.map_append]; rfl, fun nd => ?_, by simp, fun m => by rw [List.mem_append, List.mem_singleton]; exact or_comm⟩
    rw [List.nodup_append]
    refine ⟨nd, by simp, fun a ha b hb => ?_⟩
    rw [List.mem_singleton] at hb
    subst hb
    intro e
    subst e
    exact h (hin.mpr ha)
def newE (kv : Kpt) (n : Str) (fo : Option Pc) (m : Str) : Option Pc := if m = n then fo else lkp kv m
def newK (kv : Kpt) (n : Str) (fo : Option Pc) (ys : List Str) : Kpt := ys.filterMap fun m => (newE kv n fo m).map fun e => (m, e)
theorem newK_fst (kv : Kpt) (n : Str) (fo : Option Pc) : ∀ ys : List Str, (newK kv n fo ys).map (·.1) = ys.filter fun m => (newE kv n fo m).isSome
  | [] => rfl
  | y :: r => by
    have ih := newK_fst kv n fo r
    unfold newK at *
    rw [List.filterMap_cons, List.filter_cons]
    cases q : newE kv n fo y with
    | none => simpa [q] using ih
    | some e => simpa [q] using ih
theorem lkp_newK (kv : Kpt) (n : Str) (fo : Option Pc) (m : Str) : ∀ ys : List Str, (m ∉ ys → newE kv n fo m = none) → lkp (newK kv n fo ys) m = newE kv n fo m
  | [], h => by rw [h (by simp)]; rfl
  | y :: r, h => by
    unfold newK
    rw [List.filterMap_cons]
    by_cases e : y = m
    · subst e
      cases q : newE kv n fo y with
      | none =>
        have := lkp_newK kv n fo y r fun _ => q
        rw [q] at this
        exact this
      | some z =>
        show lkp ((y, z) :: _) y = _
        rw [lkp_cons, if_pos rfl]
    · have ih := lkp_newK kv n fo m r fun hm => h fun z => by
        rcases List.mem_cons.mp z with z | z
        · exact e z.symm
        · exact hm z
      cases q : newE kv n fo y with
      | none => exact ih
      | some z =>
        show lkp ((y, z) :: _) m = _
        rw [lkp_cons, if_neg e]
        exact ih
theorem newK_set {kv : Kpt} {n : Str} {fo : Option Pc} {ss ys : List Str} (nd : ss.Nodup) (hm : ∀ m, m ∈ ss ↔ m = n ∨ m ∈ kv.map (·.1)) (hl : ss.length ≤ kv.length + 1) (hp : ys.Perm ss) (hs : PyProof.Rows.sortedS ys = true) : SetTo kv n fo (newK kv n fo ys) := by
  refine ⟨⟨?_, ?_⟩, fun m => ?_, ?_⟩
  · rw [newK_fst]; exact (hp.nodup_iff.mpr nd).sublist List.filter_sublist
  · rw [newK_fst]; exact (sorted_pw hs).sublist List.filter_sublist
  · refine lkp_newK kv n fo m ys fun h => ?_
    have h' : m ∉ ss := fun z => h (hp.mem_iff.mpr z)
    rw [hm] at h'
    unfold newE
    rw [if_neg (fun z => h' (.inl z))]
    cases q : lkp kv m with
    | none => rfl
    | some e => exact absurd (.inr (lkp_mem.mp (by rw [q]; rfl))) h'
  · unfold newK
    exact Nat.le_trans (List.length_filterMap_le _ _) (by rw [hp.length_eq]; exact hl)
theorem newK_dct (kv : Kpt) (n : Str) (fo : Option Pc) (c : D → Bool) (kf : D → Key) (vf : D → D) (hc : ∀ m : Str, c (.str m) = (newE kv n fo m).isSome) (hk : ∀ m : Str, kf (.str m) = .inr m) (hv : ∀ m : Str, vf (.str m) = oldD (newE kv n fo m)) :
    ∀ ys : List Str, (((ys.map D.str).filter c).map kf = kKs (newK kv n fo ys)) ∧ (((ys.map D.str).filter c).map vf = kDs (newK kv n fo ys))
  | [] => ⟨rfl, rfl⟩
  | y :: r => by
    obtain ⟨h1, h2⟩ := newK_dct kv n fo c kf vf hc hk hv r
    unfold newK kKs kDs at *
    rw [List.map_cons, List.filter_cons, List.filterMap_cons, hc]
    cases q : newE kv n fo y with
    | none => exact ⟨by simpa [q] using h1, by simpa [q] using h2⟩
    | some e =>
      have v := hv y
      rw [q] at v
      refine ⟨?_, ?_⟩
      · simp [hk, h1]
      · simp [v, h2, oldD]
def ltrs : Str := "abcdefghijklmnopqrstuvwxyz"
def GoodN (s : Str) : Prop := 1 ≤ s.length ∧ s.length ≤ 8 ∧ ∀ c ∈ s.cps.toList, c ∈ ltrs.cps.toList
instance (s : Str) : Decidable (GoodN s) := by unfold GoodN; infer_instance
def lbO (kv : Kpt) (b : Addr) : MO := .obj "Library" [.dct (kKs kv) (kDs kv), .own b]
def libM (M : Mem) (x b : Addr) (kv : Kpt) (st : List D) : Mem := mset (mset M b (.lst st)) x (lbO kv b)
theorem libM_x {M : Mem} {x b : Addr} {kv : Kpt} {st : List D} : libM M x b kv st x = some (lbO kv b) := mset_same
theorem libM_b {M : Mem} {x b : Addr} {kv : Kpt} {st : List D} (h : b ≠ x) : libM M x b kv st b = some (.lst st) := by
  unfold libM
  rw [mset_ne h, mset_same]
theorem libM_o {M : Mem} {x b c : Addr} {kv : Kpt} {st : List D} (h1 : c ≠ x) (h2 : c ≠ b) : libM M x b kv st c = M c := by
  unfold libM
  rw [mset_ne h1, mset_ne h2]
theorem libM_set {M : Mem} {x b a : Addr} {kv : Kpt} {st : List D} {m : MO} (h1 : a ≠ x) (h2 : a ≠ b) : libM (mset M a m) x b kv st = mset (libM M x b kv st) a m := by
  unfold libM
  rw [mset_comm h2, mset_comm h1]
theorem lb_ne {M : Mem} {x b : Addr} {kv : Kpt} {st : List D} (h1 : M x = some (lbO kv b)) (h2 : M b = some (.lst st)) : b ≠ x := fun e => by
  rw [e, h1] at h2
  unfold lbO at h2
  injection h2 with h2
  cases h2
theorem libM_dom0 {M : Mem} {x b : Addr} {kw : Kpt} {su : List D} : ∀ c, (M c).isSome = true → (libM M x b kw su c).isSome = true := fun c h => by
  unfold libM mset
  by_cases h1 : c = x
  · rw [if_pos h1]; rfl
  · rw [if_neg h1]
    by_cases h2 : c = b
    · rw [if_pos h2]; rfl
    · rw [if_neg h2]; exact h
theorem fin_lib {M : Mem} {R : DR} {d : D} {x b : Addr} {kw : Kpt} {su : List D} (h : R d (libM M x b kw su)) (p : pureD d = true := by rfl) : fin M R d (libM M x b kw su) := fin_to _ Sub.refl libM_dom0 h p
def stD (told : List D) (o : Option Pc) : D := .tup [.tup told, oldD o]
theorem pure_stD {told : List D} {o : Option Pc} (h : pureL told = true) : pureD (stD told o) = true := by
  show (pureL told && (pureD (oldD o) && true)) = true
  rw [h, pure_oldD]; rfl
theorem libM_mx {M : Mem} {x b : Addr} {kv : Kpt} {st : List D} {o : MO} (h : b ≠ x) : libM (mset M x o) x b kv st = libM M x b kv st := by
  unfold libM
  rw [mset_comm (Ne.symm h), mset_set]
end Dl
namespace Dl
open PySem L2
def df (x y : Tr) (n : Int) : Int := if vl x n = vl y n then 0 else 1
structure Gap (x y : Tr) (n d w : Int) : Prop where
  up : w ≤ d → vl x n < vl y n
  dn : d ≤ -w → vl y n < vl x n
  mu : 0 ≤ d → d < w → vl y n - vl x n = df x y n
  md : -w < d → d ≤ 0 → vl x n - vl y n = df x y n
structure Cut (S A W l h a b c : Int) : Prop where
  la : l ≤ a
  ab : a ≤ b
  bc : b ≤ c
  ch : c ≤ h + 1
  r1 : ∀ n, l ≤ n → n < a → S * n + A ≤ -W
  r2 : ∀ n, a ≤ n → n < b → -W < S * n + A ∧ S * n + A ≤ 0
  r3 : ∀ n, b ≤ n → n < c → 0 ≤ S * n + A ∧ S * n + A < W
  r4 : ∀ n, c ≤ n → n ≤ h → W ≤ S * n + A
def shT (x : Tr) (k : Int) : Tr := (x.1, x.2.1 + x.1 * k, x.2.2)
def miT (x : Tr) : Tr := (-x.1, x.2.1, x.2.2)
end Dl
namespace Dl
open PySem L2
theorem NrOk.sh {y : Tr} {l h k : Int} (d : NrOk y) (sk : Sm 100 k) (sl : Sm 300 l) (sh : Sm 300 h) (hl : l ≤ h) : DOk (shT y k) l h := ⟨d.o1, d.t.mono (by decide), (Sm.add (a := 500) (d.p.mono (by decide)) ((d.t.mul sk).mono (by decide))).mono (by decide), d.o.mono (by decide), sl.mono (by decide), sh.mono (by decide), hl⟩
theorem NrOk.mi {y : Tr} {l h : Int} (d : NrOk y) (sl : Sm 300 l) (sh : Sm 300 h) (hl : l ≤ h) : DOk (miT y) l h := ⟨d.o1, d.t.neg.mono (by decide), d.p.mono (by decide), d.o.mono (by decide), sl.mono (by decide), sh.mono (by decide), hl⟩
end Dl
namespace Dl
open PySem L2
def Fst1 (T : Co → Co → Prop) : Option (Int × Int × Co × Co) → Prop
  | none => ∀ e c, T e c → ¬ c.1 < e.1
  | some (p, q, e, c) => T e c ∧ c.1 < e.1 ∧ (p, q) = fr (e.2.1 - c.2.1 - 1) (e.1 - c.1) ∧ ∀ e' c', T e' c' → c'.1 < e'.1 → q * (e'.2.1 - c'.2.1 - 1) ≤ p * (e'.1 - c'.1)
def Snd1 (T : Co → Co → Prop) : Option (Int × Int × Co × Co) → Prop
  | none => ∀ e c, T e c → ¬ e.1 < c.1
  | some (p, q, e, c) => T e c ∧ e.1 < c.1 ∧ (p, q) = fr (c.2.1 + 1 - e.2.1) (c.1 - e.1) ∧ ∀ e' c', T e' c' → e'.1 < c'.1 → p * (c'.1 - e'.1) ≤ q * (c'.2.1 + 1 - e'.2.1)
def Nev1 (T : Co → Co → Prop) : Option (Co × Co) → Prop
  | none => ∀ e c, T e c → e.1 = c.1 → e.2.1 ≤ c.2.1
  | some (e, c) => T e c ∧ e.1 = c.1 ∧ c.2.1 < e.2.1
def barD (e c : Co) : D := .tup [.int c.1, .int c.2.2, .int e.1, .int e.2.2]
def bfD : Option (Int × Int × Co × Co) → D
  | none => .non
  | some (p, q, e, c) => .tup [.tup [.int p, .int q], barD e c]
def nvD : Option (Co × Co) → D
  | none => .non
  | some (e, c) => barD e c
section
variable {T T' : Co → Co → Prop} {e0 c0 : Co} (hT : ∀ e c, T' e c ↔ T e c ∨ (e = e0 ∧ c = c0))
include hT
theorem Fst1.skip {s : Option (Int × Int × Co × Co)} (h : Fst1 T s) (n : ¬ c0.1 < e0.1) : Fst1 T' s := by
  match s, h with
  | none, h =>
    intro e c t
    rcases (hT e c).mp t with t | ⟨rfl, rfl⟩
    · exact h e c t
    · exact n
  | some (p, q, e, c), h =>
    refine ⟨(hT _ _).mpr (.inl h.1), h.2.1, h.2.2.1, fun e' c' t l => ?_⟩
    rcases (hT e' c').mp t with t | ⟨rfl, rfl⟩
    · exact h.2.2.2 _ _ t l
    · exact absurd l n
theorem Snd1.skip {s : Option (Int × Int × Co × Co)} (h : Snd1 T s) (n : ¬ e0.1 < c0.1) : Snd1 T' s := by
  match s, h with
  | none, h =>
    intro e c t
    rcases (hT e c).mp t with t | ⟨rfl, rfl⟩
    · exact h e c t
    · exact n
  | some (p, q, e, c), h =>
    refine ⟨(hT _ _).mpr (.inl h.1), h.2.1, h.2.2.1, fun e' c' t l => ?_⟩
    rcases (hT e' c').mp t with t | ⟨rfl, rfl⟩
    · exact h.2.2.2 _ _ t l
    · exact absurd l n
theorem Nev1.skip {s : Option (Co × Co)} (h : Nev1 T s) (n : e0.1 = c0.1 → e0.2.1 ≤ c0.2.1) : Nev1 T' s := by
  match s, h with
  | none, h =>
    intro e c t l
    rcases (hT e c).mp t with t | ⟨rfl, rfl⟩
    · exact h e c t l
    · exact n l
  | some (e, c), h => exact ⟨(hT _ _).mpr (.inl h.1), h.2⟩
theorem Nev1.new (n : e0.1 = c0.1) (l : c0.2.1 < e0.2.1) : Nev1 T' (some (e0, c0)) := ⟨(hT _ _).mpr (.inr ⟨rfl, rfl⟩), n, l⟩
theorem Fst1.new {s : Option (Int × Int × Co × Co)} (h : Fst1 T s) (l : c0.1 < e0.1)
    (b : ∀ p q e c, s = some (p, q, e, c) → p * (fr (e0.2.1 - c0.2.1 - 1) (e0.1 - c0.1)).2 < (fr (e0.2.1 - c0.2.1 - 1) (e0.1 - c0.1)).1 * q) :
    Fst1 T' (some ((fr (e0.2.1 - c0.2.1 - 1) (e0.1 - c0.1)).1, (fr (e0.2.1 - c0.2.1 - 1) (e0.1 - c0.1)).2, e0, c0)) := by
  obtain ⟨g, g0, e1, e2, Q1, _⟩ := fr_ok (p := e0.2.1 - c0.2.1 - 1) (q := e0.1 - c0.1) (by omega)
  refine ⟨(hT _ _).mpr (.inr ⟨rfl, rfl⟩), l, rfl, fun e' c' t l' => ?_⟩
  generalize fr (e0.2.1 - c0.2.1 - 1) (e0.1 - c0.1) = F at *
  rcases (hT e' c').mp t with t | ⟨rfl, rfl⟩
  · match s, h with
    | none, h => exact absurd l' (h _ _ t)
    | some (p, q, e, c), h =>
      have k := h.2.2.2 _ _ t l'
      have k2 := b _ _ _ _ rfl
      have q1 : 1 ≤ q := by
        have hl := h.2.1
        obtain ⟨_, _, _, _, z, _⟩ := fr_ok (p := e.2.1 - c.2.1 - 1) (q := e.1 - c.1) (by omega)
        rw [← h.2.2.1] at z; exact z
      have m1 := Int.mul_le_mul_of_nonneg_left k (show 0 ≤ F.2 by omega)
      have m2 := Int.mul_lt_mul_of_pos_right k2 (show 0 < e'.1 - c'.1 by omega)
      have : q * (F.2 * (e'.2.1 - c'.2.1 - 1)) ≤ q * (F.1 * (e'.1 - c'.1)) := by grind
      exact Int.le_of_mul_le_mul_left this (by omega)
  · rw [e1, e2]
    exact Int.le_of_eq (by grind)
theorem Snd1.new {s : Option (Int × Int × Co × Co)} (h : Snd1 T s) (l : e0.1 < c0.1)
    (b : ∀ p q e c, s = some (p, q, e, c) → (fr (c0.2.1 + 1 - e0.2.1) (c0.1 - e0.1)).1 * q < p * (fr (c0.2.1 + 1 - e0.2.1) (c0.1 - e0.1)).2) :
    Snd1 T' (some ((fr (c0.2.1 + 1 - e0.2.1) (c0.1 - e0.1)).1, (fr (c0.2.1 + 1 - e0.2.1) (c0.1 - e0.1)).2, e0, c0)) := by
  obtain ⟨g, g0, e1, e2, Q1, _⟩ := fr_ok (p := c0.2.1 + 1 - e0.2.1) (q := c0.1 - e0.1) (by omega)
  refine ⟨(hT _ _).mpr (.inr ⟨rfl, rfl⟩), l, rfl, fun e' c' t l' => ?_⟩
  generalize fr (c0.2.1 + 1 - e0.2.1) (c0.1 - e0.1) = F at *
  rcases (hT e' c').mp t with t | ⟨rfl, rfl⟩
  · match s, h with
    | none, h => exact absurd l' (h _ _ t)
    | some (p, q, e, c), h =>
      have k := h.2.2.2 _ _ t l'
      have k2 := b _ _ _ _ rfl
      have q1 : 1 ≤ q := by
        have hl := h.2.1
        obtain ⟨_, _, _, _, z, _⟩ := fr_ok (p := c.2.1 + 1 - e.2.1) (q := c.1 - e.1) (by omega)
        rw [← h.2.2.1] at z; exact z
      have m1 := Int.mul_le_mul_of_nonneg_left k (show 0 ≤ F.2 by omega)
      have m2 := Int.mul_lt_mul_of_pos_right k2 (show 0 < c'.1 - e'.1 by omega)
      have : q * (F.1 * (c'.1 - e'.1)) ≤ q * (F.2 * (c'.2.1 + 1 - e'.2.1)) := by grind
      exact Int.le_of_mul_le_mul_left this (by omega)
  · rw [e1, e2]
    exact Int.le_of_eq (by grind)
theorem Fst1.keep {p q : Int} {e c : Co} (h : Fst1 T (some (p, q, e, c))) (l : c0.1 < e0.1) (b : ¬ p * (fr (e0.2.1 - c0.2.1 - 1) (e0.1 - c0.1)).2 < (fr (e0.2.1 - c0.2.1 - 1) (e0.1 - c0.1)).1 * q) : Fst1 T' (some (p, q, e, c)) := by
  obtain ⟨g, g0, e1, e2, Q1, _⟩ := fr_ok (p := e0.2.1 - c0.2.1 - 1) (q := e0.1 - c0.1) (by omega)
  refine ⟨(hT _ _).mpr (.inl h.1), h.2.1, h.2.2.1, fun e' c' t l' => ?_⟩
  generalize fr (e0.2.1 - c0.2.1 - 1) (e0.1 - c0.1) = F at *
  rcases (hT e' c').mp t with t | ⟨rfl, rfl⟩
  · exact h.2.2.2 _ _ t l'
  · have m := Int.mul_le_mul_of_nonneg_left (show F.1 * q ≤ p * F.2 by omega) (show 0 ≤ g by omega)
    rw [e1, e2]; grind
theorem Snd1.keep {p q : Int} {e c : Co} (h : Snd1 T (some (p, q, e, c))) (l : e0.1 < c0.1) (b : ¬ (fr (c0.2.1 + 1 - e0.2.1) (c0.1 - e0.1)).1 * q < p * (fr (c0.2.1 + 1 - e0.2.1) (c0.1 - e0.1)).2) : Snd1 T' (some (p, q, e, c)) := by
  obtain ⟨g, g0, e1, e2, Q1, _⟩ := fr_ok (p := c0.2.1 + 1 - e0.2.1) (q := c0.1 - e0.1) (by omega)
  refine ⟨(hT _ _).mpr (.inl h.1), h.2.1, h.2.2.1, fun e' c' t l' => ?_⟩
  generalize fr (c0.2.1 + 1 - e0.2.1) (c0.1 - e0.1) = F at *
  rcases (hT e' c').mp t with t | ⟨rfl, rfl⟩
  · exact h.2.2.2 _ _ t l'
  · have m := Int.mul_le_mul_of_nonneg_left (show p * F.2 ≤ F.1 * q by omega) (show 0 ≤ g by omega)
    rw [e1, e2]; grind
end
def Seen (L U : List Co) (i j : Nat) (e c : Co) : Prop := (∃ a, a < i ∧ L[a]? = some e ∧ c ∈ U) ∨ (L[i]? = some e ∧ ∃ b, b < j ∧ U[b]? = some c)
theorem seen_zero {L U : List Co} (e c : Co) : ¬ Seen L U 0 0 e c := by
  rintro (⟨a, h, _⟩ | ⟨_, b, h, _⟩) <;> omega
theorem seen_step {L U : List Co} {i j : Nat} {e0 c0 : Co} (h1 : L[i]? = some e0) (h2 : U[j]? = some c0) (e c : Co) : Seen L U i (j + 1) e c ↔ Seen L U i j e c ∨ (e = e0 ∧ c = c0) := by
  constructor
  · rintro (h | ⟨q, b, hb, z⟩)
    · exact .inl (.inl h)
    · rcases Nat.lt_or_ge b j with y | y
      · exact .inl (.inr ⟨q, b, y, z⟩)
      · obtain rfl : b = j := by omega
        exact .inr ⟨Option.some.inj (q.symm.trans h1), Option.some.inj (z.symm.trans h2)⟩
  · rintro ((h | ⟨q, b, hb, z⟩) | ⟨rfl, rfl⟩)
    · exact .inl h
    · exact .inr ⟨q, b, by omega, z⟩
    · exact .inr ⟨h1, j, by omega, h2⟩
theorem seen_row {L U : List Co} {i : Nat} (e c : Co) : Seen L U i U.length e c ↔ Seen L U (i + 1) 0 e c := by
  constructor
  · rintro (⟨a, h, q⟩ | ⟨q, b, hb, z⟩)
    · exact .inl ⟨a, by omega, q⟩
    · exact .inl ⟨i, by omega, q, List.mem_of_getElem? z⟩
  · rintro (⟨a, h, q, m⟩ | ⟨q, b, hb, z⟩)
    · rcases Nat.lt_or_ge a i with y | y
      · exact .inl ⟨a, y, q, m⟩
      · obtain rfl : a = i := by omega
        obtain ⟨b, hb⟩ := List.mem_iff_getElem?.mp m
        have hb2 : b < U.length := by
          rcases Nat.lt_or_ge b U.length with z | z
          · exact z
          · rw [List.getElem?_eq_none z] at hb; cases hb
        exact .inr ⟨q, b, hb2, hb⟩
    · omega
theorem seen_all {L U : List Co} (e c : Co) : Seen L U L.length 0 e c ↔ e ∈ L ∧ c ∈ U := by
  constructor
  · rintro (⟨a, h, q, m⟩ | ⟨q, b, hb, z⟩)
    · exact ⟨List.mem_of_getElem? q, m⟩
    · omega
  · rintro ⟨h, m⟩
    obtain ⟨a, ha⟩ := List.mem_iff_getElem?.mp h
    refine .inl ⟨a, ?_, ha, m⟩
    rcases Nat.lt_or_ge a L.length with z | z
    · exact z
    · rw [List.getElem?_eq_none z] at ha; cases ha
theorem ex_max (g : Co → Int) : ∀ L : List Co, L ≠ [] → ∃ e ∈ L, ∀ d ∈ L, g d ≤ g e
  | [], h => absurd rfl h
  | [a], _ => ⟨a, by simp, fun d h => by simp at h; subst h; exact Int.le_refl _⟩
  | a :: b :: r, _ => by
    obtain ⟨e, he, m⟩ := ex_max g (b :: r) (by simp)
    by_cases c : g e ≤ g a
    · exact ⟨a, by simp, fun d hd => by
        rcases List.mem_cons.mp hd with rfl | hd
        · exact Int.le_refl _
        · have := m d hd; omega⟩
    · exact ⟨e, List.mem_cons_of_mem _ he, fun d hd => by
        rcases List.mem_cons.mp hd with rfl | hd
        · omega
        · exact m d hd⟩
section
variable {P : List Pc} {L U : List Co} (C : CorN P P.length L U)
include C
theorem CorN.ok {u w v : Int} (v1 : 1 ≤ v) : OkP P u w v ↔ (∀ e ∈ L, v * e.2.1 ≤ u * e.1 + w) ∧ ∀ e ∈ U, u * e.1 + w < v * (e.2.1 + 1) := by
  rw [← C.iff u w v v1]
  constructor
  · exact fun h j _ p hp => h p (List.mem_of_getElem? hp)
  · intro h p hp
    obtain ⟨j, hj⟩ := List.mem_iff_getElem?.mp hp
    refine h j ?_ p hj
    rcases Nat.lt_or_ge j P.length with z | z
    · exact z
    · rw [List.getElem?_eq_none z] at hj; cases hj
theorem CorN.slp (ne : P ≠ []) {u v : Int} (v1 : 1 ≤ v) : SlP P u v ↔ ∀ e ∈ L, ∀ c ∈ U, v * (e.2.1 - c.2.1 - 1) < u * (e.1 - c.1) := by
  constructor
  · rintro ⟨w, h⟩ e he c hc
    obtain ⟨a, b⟩ := (C.ok v1).mp h
    have a := a e he
    have b := b c hc
    rw [Int.mul_sub, Int.mul_sub, Int.mul_sub]
    rw [Int.mul_add] at b
    omega
  · intro h
    have Ln : L ≠ [] := C.ne (by cases P with
      | nil => exact absurd rfl ne
      | cons _ _ => simp)
    obtain ⟨e, he, m⟩ := ex_max (fun e => v * e.2.1 - u * e.1) L Ln
    refine ⟨v * e.2.1 - u * e.1, (C.ok v1).mpr ⟨fun d hd => by have := m d hd; omega, fun c hc => ?_⟩⟩
    have := h e he c hc
    rw [Int.mul_sub, Int.mul_sub, Int.mul_sub] at this
    rw [Int.mul_add]
    omega
theorem CorN.never (ne : P ≠ []) {e c : Co} (n : Nev1 (fun e c => e ∈ L ∧ c ∈ U) (some (e, c))) {u v : Int} (v1 : 1 ≤ v) : ¬ SlP P u v := fun s => by
  have k := (C.slp ne v1).mp s e n.1.1 c n.1.2
  rw [n.2.1, Int.sub_self, Int.mul_zero] at k
  have := Int.mul_nonneg (show 0 ≤ v by omega) (show 0 ≤ e.2.1 - c.2.1 - 1 by have := n.2.2; omega)
  omega
theorem CorN.all (ne : P ≠ []) (n : Nev1 (fun e c => e ∈ L ∧ c ∈ U) none) (f : Fst1 (fun e c => e ∈ L ∧ c ∈ U) none) {u v : Int} (v1 : 1 ≤ v) : SlP P u v := by
  refine (C.slp ne v1).mpr fun e he c hc => ?_
  have f1 : ¬ c.1 < e.1 := f e c ⟨he, hc⟩
  have f2 : ¬ e.1 < c.1 := by
    rcases C.two with ⟨⟨a, ha, b, hb, t⟩, _⟩ | z
    · exact absurd t (f a b ⟨ha, hb⟩)
    · subst z; exact f c e ⟨hc, he⟩
  have e1 : e.1 = c.1 := by omega
  have := n e c ⟨he, hc⟩ e1
  rw [e1, Int.sub_self, Int.mul_zero]
  have := Int.mul_le_mul_of_nonneg_left (show e.2.1 - c.2.1 - 1 ≤ -1 by omega) (show 0 ≤ v by omega)
  omega
theorem CorN.snd {p q : Int} {e c : Co} (f : Fst1 (fun e c => e ∈ L ∧ c ∈ U) (some (p, q, e, c))) : ¬ Snd1 (fun e c => e ∈ L ∧ c ∈ U) none := fun s => by
  rcases C.two with ⟨_, a, ha, b, hb, t⟩ | z
  · exact s a b ⟨ha, hb⟩ t
  · subst z; exact s c e ⟨f.1.2, f.1.1⟩ f.2.1
theorem CorN.iv (ne : P ≠ []) {p q p2 q2 : Int} {e c e2 c2 : Co} (n : Nev1 (fun e c => e ∈ L ∧ c ∈ U) none) (f : Fst1 (fun e c => e ∈ L ∧ c ∈ U) (some (p, q, e, c))) (s : Snd1 (fun e c => e ∈ L ∧ c ∈ U) (some (p2, q2, e2, c2))) {u v : Int} (v1 : 1 ≤ v) : SlP P u v ↔ InI ⟨p, q, p2, q2⟩ u v := by
  have hl := f.2.1
  have hl2 := s.2.1
  obtain ⟨g, g0, a1, a2, Q1, _⟩ := fr_ok (p := e.2.1 - c.2.1 - 1) (q := e.1 - c.1) (by omega)
  obtain ⟨g', g0', b1, b2, Q1', _⟩ := fr_ok (p := c2.2.1 + 1 - e2.2.1) (q := c2.1 - e2.1) (by omega)
  rw [← f.2.2.1] at a1 a2 Q1
  rw [← s.2.2.1] at b1 b2 Q1'
  simp only at a1 a2 Q1 b1 b2 Q1'
  rw [C.slp ne v1]
  constructor
  · intro h
    have k1 := h e f.1.1 c f.1.2
    have k2 := h e2 s.1.1 c2 s.1.2
    refine ⟨v1, ?_, ?_⟩
    · show p * v < u * q
      rw [a1, a2] at k1
      have : g * (p * v) < g * (u * q) := by grind
      exact Int.lt_of_mul_lt_mul_left this (by omega)
    · show u * q2 < p2 * v
      rw [show e2.2.1 - c2.2.1 - 1 = -(c2.2.1 + 1 - e2.2.1) by omega, show e2.1 - c2.1 = -(c2.1 - e2.1) by omega, b1, b2] at k2
      have : g' * (u * q2) < g' * (p2 * v) := by grind
      exact Int.lt_of_mul_lt_mul_left this (by omega)
  · rintro ⟨_, h1, h2⟩ d hd a ha
    have h1 : p * v < u * q := h1
    have h2 : u * q2 < p2 * v := h2
    rcases Int.lt_trichotomy a.1 d.1 with t | t | t
    · have k := f.2.2.2 d a ⟨hd, ha⟩ t
      have m1 := Int.mul_le_mul_of_nonneg_left k (show 0 ≤ v by omega)
      have m2 := Int.mul_lt_mul_of_pos_right h1 (show 0 < d.1 - a.1 by omega)
      have : q * (v * (d.2.1 - a.2.1 - 1)) < q * (u * (d.1 - a.1)) := by grind
      exact Int.lt_of_mul_lt_mul_left this (by omega)
    · have := n d a ⟨hd, ha⟩ t.symm
      rw [t, Int.sub_self, Int.mul_zero]
      have := Int.mul_le_mul_of_nonneg_left (show d.2.1 - a.2.1 - 1 ≤ -1 by omega) (show 0 ≤ v by omega)
      omega
    · have k := s.2.2.2 d a ⟨hd, ha⟩ t
      have m1 := Int.mul_le_mul_of_nonneg_left k (show 0 ≤ v by omega)
      have m2 := Int.mul_lt_mul_of_pos_right h2 (show 0 < a.1 - d.1 by omega)
      have : q2 * (v * (d.2.1 - a.2.1 - 1)) < q2 * (u * (d.1 - a.1)) := by grind
      exact Int.lt_of_mul_lt_mul_left this (by omega)
end
end Dl
namespace Dl
open PySem L2
theorem SB.mk' {I : Iv} {u v : Int} (ok : IOk I) (m : InI I u v) (den : ∀ u' v', InI I u' v' → v ≤ v') (one : ∀ u', InI I u' v → u ≤ u') : SB I u v := by
  obtain ⟨a, b, s⟩ := sb_ex (I.q1 + I.q2).toNat I ok (by have := ok.q1; have := ok.q2; omega)
  have h1 := s.den _ _ m
  have h2 := den _ _ s.mem
  obtain rfl : b = v := by omega
  have h3 := s.one _ m
  have h4 := one _ s.mem
  obtain rfl : a = u := by omega
  exact s
theorem SB.only {I : Iv} {u v u' : Int} (ok : IOk I) (s : SB I u v) (v2 : 2 ≤ v) (m : InI I u' v) : u' = u := by
  have h1 := s.one _ m
  rcases Int.lt_or_le u u' with c | c
  · have q1 := ok.q1
    have q2 := ok.q2
    have a := Int.mul_ediv_add_emod (-(u * (v - 1))) v
    have b := Int.emod_nonneg (-(u * (v - 1))) (show v ≠ 0 by omega)
    have d := Int.emod_lt_of_pos (-(u * (v - 1))) (show 0 < v by omega)
    generalize -(u * (v - 1)) / v = t at *
    generalize -(u * (v - 1)) % v = r at *
    have e1 : -t * v = u * (v - 1) + r := by rw [Int.neg_mul, Int.mul_comm]; omega
    have hm : InI I (-t) (v - 1) := by
      refine ⟨by omega, ?_, ?_⟩
      · have x1 := Int.mul_lt_mul_of_pos_right s.mem.lo (show 0 < v - 1 by omega)
        have x2 := Int.mul_nonneg (show 0 ≤ r by omega) (show 0 ≤ I.q1 by omega)
        have x3 : -t * I.q1 * v = u * I.q1 * (v - 1) + r * I.q1 := by rw [Int.mul_right_comm, e1, Int.add_mul, Int.mul_right_comm]
        have x4 : I.p1 * (v - 1) * v = I.p1 * v * (v - 1) := Int.mul_right_comm _ _ _
        exact Int.lt_of_mul_lt_mul_right (show I.p1 * (v - 1) * v < -t * I.q1 * v by omega) (by omega)
      · have x0 := Int.mul_le_mul_of_nonneg_right (show u + 1 ≤ u' by omega) (show 0 ≤ I.q2 by omega)
        have mh := m.hi
        have x1 := Int.mul_lt_mul_of_pos_right (show (u + 1) * I.q2 < I.p2 * v by omega) (show 0 < v - 1 by omega)
        have x2 := Int.mul_le_mul_of_nonneg_right (show r ≤ v - 1 by omega) (show 0 ≤ I.q2 by omega)
        have x3 : -t * I.q2 * v = u * I.q2 * (v - 1) + r * I.q2 := by rw [Int.mul_right_comm, e1, Int.add_mul, Int.mul_right_comm]
        have x4 : I.p2 * (v - 1) * v = I.p2 * v * (v - 1) := Int.mul_right_comm _ _ _
        have x5 : (u + 1) * I.q2 * (v - 1) = u * I.q2 * (v - 1) + (v - 1) * I.q2 := by rw [Int.add_mul, Int.one_mul, Int.add_mul, Int.mul_comm I.q2 (v - 1)]
        exact Int.lt_of_mul_lt_mul_right (show -t * I.q2 * v < I.p2 * (v - 1) * v by omega) (by omega)
    have := s.den _ _ hm
    omega
  · omega
def Iv.neg (I : Iv) : Iv := ⟨-I.p2, I.q2, -I.p1, I.q1⟩
theorem in_neg {I : Iv} {u v : Int} : InI I.neg (-u) v ↔ InI I u v := by
  constructor
  · intro m
    have a : -I.p2 * v < -u * I.q2 := m.lo
    have b : -u * I.q1 < -I.p1 * v := m.hi
    rw [Int.neg_mul, Int.neg_mul] at a b
    exact ⟨m.v1, by omega, by omega⟩
  · intro m
    have a := m.lo
    have b := m.hi
    exact ⟨m.v1, by show -I.p2 * v < -u * I.q2; rw [Int.neg_mul, Int.neg_mul]; omega, by show -u * I.q1 < -I.p1 * v; rw [Int.neg_mul, Int.neg_mul]; omega⟩
theorem IOk.neg {I : Iv} (ok : IOk I) : IOk I.neg := by
  refine ⟨ok.q2, ok.q1, ?_⟩
  show -I.p2 * I.q1 < -I.p1 * I.q2
  rw [Int.neg_mul, Int.neg_mul]
  have := ok.lt
  omega
theorem in_neg' {I : Iv} {u v : Int} (m : InI I.neg u v) : InI I (-u) v := in_neg.mp (by rw [Int.neg_neg]; exact m)
theorem SB.neg {I : Iv} {u v : Int} (ok : IOk I) (s : SB I u v) (v2 : 2 ≤ v) : SB I.neg (-u) v :=
  SB.mk' ok.neg (in_neg.mpr s.mem) (fun _ _ m => s.den _ _ (in_neg' m)) fun u' m => by have := s.only ok v2 (in_neg' m); omega
theorem LstR.neg {I : Iv} {b m m' : Int} {j j' : Nat} (a : LstR I b m j) (c : LstR I.neg b m' j') : j' = j := by
  rcases Nat.lt_trichotomy j j' with h | h | h
  · exact absurd (in_neg.mpr a.mem) (c.low j h _)
  · exact h.symm
  · exact absurd (in_neg' c.mem) (a.low j' h _)
theorem LowS.plus {f g : Int → Int} {l h p q k : Int} (e : ∀ n, g n = f n + k) (a : LowS f l h p q) : LowS g l h p q := by
  have d : ∀ a b, g b - g a - 1 = f b - f a - 1 := fun a b => by rw [e, e]; omega
  exact ⟨a.q1, a.cop, by obtain ⟨c, z, c1, cd, d1, ee⟩ := a.ex; exact ⟨c, z, c1, cd, d1, by rw [d]; exact ee⟩, fun c z c1 cd d1 => by rw [d]; exact a.le c z c1 cd d1⟩
theorem LowS.shift {f g : Int → Int} {l h p q k : Int} (e : ∀ n, g n = f (n + k)) (a : LowS f l h p q) : LowS g (l - k) (h - k) p q := by
  refine ⟨a.q1, a.cop, ?_, fun c z c1 cd d1 => ?_⟩
  · obtain ⟨c, z, c1, cd, d1, ee⟩ := a.ex
    exact ⟨c - k, z - k, by omega, by omega, by omega, by rw [e, e, Int.sub_add_cancel, Int.sub_add_cancel, show z - k - (c - k) = z - c by omega]; exact ee⟩
  · rw [e, e]
    have := a.le (c + k) (z + k) (by omega) (by omega) (by omega)
    rw [show z + k - (c + k) = z - c by omega] at this
    exact this
theorem LowS.turn {f g : Int → Int} {l h p q : Int} (e : ∀ n, g n = - f (-n)) (a : LowS f l h p q) : LowS g (-h) (-l) p q := by
  refine ⟨a.q1, a.cop, ?_, fun c z c1 cd d1 => ?_⟩
  · obtain ⟨c, z, c1, cd, d1, ee⟩ := a.ex
    exact ⟨-z, -c, by omega, by omega, by omega, by rw [e, e, Int.neg_neg, Int.neg_neg, show -c - -z = z - c by omega, show -f c - -f z - 1 = f z - f c - 1 by omega]; exact ee⟩
  · rw [e, e]
    have := a.le (-z) (-c) (by omega) (by omega) (by omega)
    rw [show -c - -z = z - c by omega] at this
    rw [show -f (-z) - -f (-c) - 1 = f (-c) - f (-z) - 1 by omega]
    exact this
structure MvP (x y : Tr) (k : Int) : Prop where
  x1 : 1 ≤ x.2.2
  y1 : 1 ≤ y.2.2
  e : ∀ n, vl y n = vl x n + k
structure MvT (x y : Tr) (k : Int) : Prop where
  x1 : 1 ≤ x.2.2
  y1 : 1 ≤ y.2.2
  e : ∀ n, vl y n = vl x n + k * n
structure MvS (x y : Tr) (k : Int) : Prop where
  x1 : 1 ≤ x.2.2
  y1 : 1 ≤ y.2.2
  e : ∀ n, vl y n = vl x (n + k)
structure MvN (x y : Tr) : Prop where
  x1 : 1 ≤ x.2.2
  y1 : 1 ≤ y.2.2
  e : ∀ n, vl y n = -vl x n
structure MvM (x y : Tr) : Prop where
  x1 : 1 ≤ x.2.2
  y1 : 1 ≤ y.2.2
  e : ∀ n, vl y n = vl x (-n)
section
variable {x y : Tr} {l h k : Int} {I : Iv}
end
end Dl
namespace Dl
open PySem L2
theorem IsArg.plus {f g : Int → Int} {l h n c : Int} {b : Bool} (e : ∀ n, g n = f n + c) (a : IsArg f l h b n) : IsArg g l h b n :=
  ⟨a.l0, a.h0, fun m h1 h2 => by rw [e, e]; have := a.le m h1 h2; omega, fun m h1 h2 q => a.tie m h1 h2 (by rw [e, e] at q; omega)⟩
theorem IsArg.shift {f g : Int → Int} {l h n c k : Int} {b : Bool} (e : ∀ n, g n = f (n + k) + c) (a : IsArg f l h b n) : IsArg g (l - k) (h - k) b (n - k) := by
  refine ⟨by have := a.l0; omega, by have := a.h0; omega, fun m h1 h2 => ?_, fun m h1 h2 q => ?_⟩
  · rw [e, e, Int.sub_add_cancel]
    have := a.le (m + k) (by omega) (by omega)
    omega
  · rw [e, e, Int.sub_add_cancel] at q
    have := a.tie (m + k) (by omega) (by omega) (by omega)
    cases b <;> simp at this ⊢ <;> omega
theorem IsArg.turn {f g : Int → Int} {l h n : Int} {b : Bool} (e : ∀ n, g n = f (-n)) (a : IsArg f l h b n) : IsArg g (-h) (-l) (!b) (-n) := by
  refine ⟨by have := a.h0; omega, by have := a.l0; omega, fun m h1 h2 => ?_, fun m h1 h2 q => ?_⟩
  · rw [e, e, Int.neg_neg]
    exact a.le (-m) (by omega) (by omega)
  · rw [e, e, Int.neg_neg] at q
    have := a.tie (-m) (by omega) (by omega) q
    cases b <;> simp at this ⊢ <;> omega
section
variable {x y : Tr} {l h k : Int} {ts ms : List Int}
theorem MvP.loW (hl : l ≤ h) (m : MvP x y k) {u v : Int} : loW y l h u v = loW x l h u v + v * k := by
  obtain ⟨⟨a, a1, a2, ea⟩, la⟩ := loW_ok (x := x) (u := u) (v := v) hl
  obtain ⟨⟨b, b1, b2, eb⟩, lb⟩ := loW_ok (x := y) (u := u) (v := v) hl
  have h1 := lb a a1 a2
  have h2 := la b b1 b2
  rw [m.e, Int.mul_add] at h1 eb
  omega
theorem MvT.loW (hl : l ≤ h) (m : MvT x y k) {u v : Int} : loW y l h (u + k * v) v = loW x l h u v := by
  obtain ⟨⟨a, a1, a2, ea⟩, la⟩ := loW_ok (x := x) (u := u) (v := v) hl
  obtain ⟨⟨b, b1, b2, eb⟩, lb⟩ := loW_ok (x := y) (u := u + k * v) (v := v) hl
  have h1 := lb a a1 a2
  have h2 := la b b1 b2
  rw [m.e, Int.mul_add, Int.add_mul, Int.mul_left_comm v k, Int.mul_assoc k v] at h1 eb
  omega
theorem MvS.loW (hl : l ≤ h) (m : MvS x y k) {u v : Int} : loW y (l - k) (h - k) u v = loW x l h u v + u * k := by
  obtain ⟨⟨a, a1, a2, ea⟩, la⟩ := loW_ok (x := x) (u := u) (v := v) hl
  obtain ⟨⟨b, b1, b2, eb⟩, lb⟩ := loW_ok (x := y) (l := l - k) (h := h - k) (u := u) (v := v) (by omega)
  have h1 := lb (a - k) (by omega) (by omega)
  have h2 := la (b + k) (by omega) (by omega)
  rw [m.e, Int.sub_add_cancel, Int.mul_sub] at h1
  rw [m.e] at eb
  rw [Int.mul_add] at h2
  omega
end
end Dl
namespace Dl
open PySem L2
section
variable {x : Tr} {l h u v w z0 z1 n0 n1 : Int} {I : Iv} (hl : l < h) (x1 : 1 ≤ x.2.2) (sI : Slo x l h I) (s : SB I u v) (g : Agr x (u, w, v) l h) (C : Corn u w v l h z0 z1 n0 n1) (W : Wide u v z0 z1 n0 n1)
include hl x1 sI s g C W
end
end Dl
namespace Dl
open PySem L2
theorem Slp.mono {f : Int → Int} {l h l' h' u v : Int} (s : Slp f l h u v) (a : l ≤ l') (b : h' ≤ h) : Slp f l' h' u v := fun c d c1 c2 d1 d2 => s c d (by omega) (by omega) (by omega) (by omega)
theorem Slp.congr {f g : Int → Int} {l h u v : Int} (e : ∀ n, f n = g n) (s : Slp f l h u v) : Slp g l h u v := fun c d c1 c2 d1 d2 => by rw [← e, ← e]; exact s c d c1 c2 d1 d2
structure Far (f : Int → Int) (l m S H : Int) : Prop where
  l0 : l ≤ H
  at' : l < H → Slp f l H m S
  no : ¬ Slp f l (H + 1) m S
end Dl
namespace Dl
open PySem L2
end Dl
namespace Dl
open PySem L2
end Dl
namespace Dl
open PySem L2
theorem okS_app (x y : Str) : PyData.strOk (x ++ y) = (PyData.strOk x && PyData.strOk y) := by
  unfold PyData.strOk
  rw [Str.cps_append, Array.all_append]
theorem okS_of (s : String) : PyData.strOk (Str.ofString s) = true := by
  unfold PyData.strOk
  rw [Str.ofString_eq_toList]
  simp only [List.all_toArray, List.all_map, List.all_eq_true]
  intro c _
  have h := c.valid
  simp only [Function.comp, decide_eq_true_eq]
  show c.val.toNat < 1114112
  rcases h with h | h <;> omega
theorem len_int {i : Int} {n : Nat} (h : Sm n i) (h0 : 0 < n) : (Str.ofString (toString i)).length ≤ n + 1 := by
  rw [ofString_length]
  exact int_text_length_le h0 (h.log h0)
theorem fit3k {x : Str} (h : x.length ≤ 30000) : x.length ≤ sizeLine := by rw [sizeLine_eq]; omega
def ShS (d : D) : Prop := ∃ p, ShowOk d p ∧ PyData.strOk p.shown = true
end Dl
namespace Dl
open PySem L2
structure LnSh (S : DSp) (txt : Int × Int × Int → Str) : Prop where
  sh : ∀ (x : Int × Int × Int) (M : Mem), Sm 900 x.1 → Sm 900 x.2.1 → Sm 900 x.2.2 → S [.ln x.1 x.2.1 x.2.2] M (fun e M' => e = .str (txt x) ∧ M' = M) noX
  len : ∀ x : Int × Int × Int, Sm 900 x.1 → Sm 900 x.2.1 → Sm 900 x.2.2 → (txt x).length ≤ 2800
  ok : ∀ x, PyData.strOk (txt x) = true
structure GX (txt : Int × Int × Int → Str) (d : D) (n : Nat) : Prop where
  ok : okX d = true
  ln : ∀ x ∈ lnsX d, Sm 900 x.1 ∧ Sm 900 x.2.1 ∧ Sm 900 x.2.2
  len : (shX txt d).length ≤ n
  st : PyData.strOk (shX txt d) = true
section
variable {S : DSp} {txt : Int × Int × Int → Str}
theorem gx_int {i : Int} (h : Sm 900 i) : GX txt (.int i) 901 :=
  ⟨by show decide (i.natAbs.log2 < 1920) = true
      exact decide_eq_true (Nat.lt_of_lt_of_le (h.log (by decide)) (by decide)), fun x hx => (by simp [lnsX] at hx), len_int h (by decide), okS_of _⟩
theorem gx_ln (L : LnSh S txt) {t p o : Int} (h1 : Sm 900 t) (h2 : Sm 900 p) (h3 : Sm 900 o) : GX txt (.ln t p o) 2800 :=
  ⟨rfl, fun x hx => by
    simp only [lnsX, List.mem_singleton] at hx
    subst hx
    exact ⟨h1, h2, h3⟩, by simp only [shX]; exact L.len (t, p, o) h1 h2 h3, by simp only [shX]; exact L.ok _⟩
theorem GX.le {d : D} {n m : Nat} (h : GX txt d n) (k : n ≤ m) : GX txt d m := ⟨h.ok, h.ln, Nat.le_trans h.len k, h.st⟩
theorem gx_tup3 {a b c : D} {n m k : Nat} (ha : GX txt a n) (hb : GX txt b m) (hc : GX txt c k) : GX txt (.tup [a, b, c]) (n + m + k + 6) := by
  have e : shX txt (.tup [a, b, c]) = (Str.ofString "(" ++ (shX txt a ++ Str.ofString ", " ++ (shX txt b ++ Str.ofString ", " ++ shX txt c))) ++ Str.ofString ")" := by
    simp only [shX, shXL]
    rfl
  have a1 : (Str.ofString "(").length = 1 := by decide +kernel
  have a2 : (Str.ofString ", ").length = 2 := by decide +kernel
  have a3 : (Str.ofString ")").length = 1 := by decide +kernel
  have l1 := ha.len
  have l2 := hb.len
  have l3 := hc.len
  refine ⟨by simp [okX, okXL, ha.ok, hb.ok, hc.ok], fun x hx => ?_, ?_, ?_⟩
  · simp only [lnsX, lnsXL, List.append_nil, List.mem_append] at hx
    exact hx.elim (ha.ln x) (fun hx => hx.elim (hb.ln x) (hc.ln x))
  · rw [e]
    simp only [Str.length_append, a1, a2, a3]
    omega
  · rw [e]
    simp only [okS_app, okS_of, ha.st, hb.st, hc.st, Bool.and_true]
def ShU (S : DSp) (d : D) : Prop := ∃ t, PyData.strOk t = true ∧ ((∃ p, ShowOk d p ∧ t = p.shown) ∨ ∀ M, ShowX S M d t)
theorem GX.shu (L : LnSh S txt) {d : D} {n : Nat} (h : GX txt d n) (hn : n ≤ 30000) (hc : conX d = true) (hd : depX d ≤ 6) : ShU S d :=
  ⟨shX txt d, h.st, .inr fun M => ⟨hc, h.ok, hd, fit3k (Nat.le_trans h.len hn), txt, rfl, fun x hx => let ⟨a, b, c⟩ := h.ln x hx; L.sh x M a b c⟩⟩
theorem ShS.shu {d : D} (h : ShS d) : ShU S d := let ⟨p, a, b⟩ := h; ⟨p.shown, b, .inl ⟨p, a, rfl⟩⟩
theorem shu_x {d : D} {M : Mem} {R : DR} {t : Str} (h : (∃ p, ShowOk d p ∧ t = p.shown) ∨ ∀ M, ShowX S M d t) (k : R (.str t) M) : oReprX S [d] M R := by
  rcases h with ⟨p, sh, rfl⟩ | h
  · exact .inl ⟨p, sh, k⟩
  · exact .inr ⟨t, h M, k⟩
end
end Dl
namespace Dl
open PySem L2
def RgOk (a b : D) : Prop := ∃ i j : Int, a = .int i ∧ b = .int j ∧ i < j
theorem pure2 {a b : D} (h : pureD a = true) (k : pureD b = true) : pureD (.tup [a, b]) = true := by simp [pureD, pureL, h, k]
structure NoLn (x : D) : Prop where
  ty : tyL x = true
  ln : isLn x = false
  pu : pureD x = true
structure NoRg (l h : D) : Prop where
  tl : tyL l = true
  th : tyL h = true
  rg : ¬ RgOk l h
  pl : pureD l = true
  ph : pureD h = true
theorem NoRg.pu {l h : D} (n : NoRg l h) : pureD (.tup [l, h]) = true := pure2 n.pl n.ph
inductive Door : D → D → D → Str → D → Prop
  | ln {x l h : D} : NoLn x → Door x l h "InvalidLine" x
  | rg {x : Tr} {l h : D} : NoRg l h → Door (trL x) l h "InvalidRange" (.tup [l, h])
theorem Door.pu {x l h o : D} {c : Str} (d : Door x l h c o) : pureD o = true := by
  cases d with
  | ln n => exact n.pu
  | rg n => exact n.pu
inductive Door2 : D → D → D → D → Str → D → Prop
  | a {x y l h : D} : NoLn x → Door2 x y l h "InvalidLine" x
  | b {x : Tr} {y l h : D} : NoLn y → Door2 (trL x) y l h "InvalidLine" y
  | rg {x y : Tr} {l h : D} : NoRg l h → Door2 (trL x) (trL y) l h "InvalidRange" (.tup [l, h])
theorem Door2.pu {x y l h o : D} {c : Str} (d : Door2 x y l h c o) : pureD o = true := by
  cases d with
  | a n => exact n.pu
  | b n => exact n.pu
  | rg n => exact n.pu
def badN (l h : Int) : D → Bool
  | .int i => decide (i < l) || decide (h < i)
  | _ => true
structure NoNum (l h : Int) (d : D) : Prop where
  ty : tyL d = true
  pu : pureD d = true
  no : ∀ es, d = .lst es → es.length ≤ 1000 ∧ (∀ e ∈ es, tyL e = true ∧ pureD e = true) ∧ ∃ e ∈ es, badN l h e = true
inductive Door3 : D → D → D → D → Str → D → Prop
  | d {x l h n o : D} {c : Str} : Door x l h c o → Door3 x l h n c o
  | n {x : Tr} {l h : Int} {n : D} : l < h → NoNum l h n → Door3 (trL x) (.int l) (.int h) n "InvalidList" n
theorem Door3.pu {x l h n o : D} {c : Str} (d : Door3 x l h n c o) : pureD o = true := by
  cases d with
  | d n => exact n.pu
  | n _ n => exact n.pu
section
variable {g : DG} {t : DT} {e : DE} {va : DA} {vs : List Nat} {γ : Gm} {M M1 : Mem} {R : DR} (c : D → Bool) (f : D → D)
end
def TxtOk (S : DSp) (d : D) (t : Str) : Prop := PyData.strOk t = true ∧ ((∃ p, ShowOk d p ∧ t = p.shown) ∨ ∀ M, ShowX S M d t)
theorem TxtOk.x {S : DSp} {d : D} {M : Mem} {R : DR} {t : Str} (h : TxtOk S d t) (k : R (.str t) M) : oReprX S [d] M R := shu_x h.2 k
section
variable {txt : Int × Int × Int → Str}
theorem gx_intN {i : Int} {n : Nat} (h : Sm n i) (h0 : 0 < n) (h1 : n ≤ 900) : GX txt (.int i) (n + 1) := ⟨(gx_int (txt := txt) (h.mono h1)).ok, (gx_int (txt := txt) (h.mono h1)).ln, len_int h h0, okS_of _⟩
end
end Dl
namespace Dl
open PySem L2
def inNm (kv : Kpt) : D → Bool
  | .str n => (lkp kv n).isSome
  | _ => false
def isNm : D → Bool
  | .str s => decide (GoodN s)
  | _ => false
theorem nodup_le {α : Type} [DecidableEq α] : ∀ {l m : List α}, l.Nodup → (∀ x ∈ l, x ∈ m) → l.length ≤ m.length
  | [], _, _, _ => Nat.zero_le _
  | x :: r, m, nd, h => by
    obtain ⟨h1, h2⟩ := List.nodup_cons.mp nd
    have hx : x ∈ m := h x List.mem_cons_self
    have ih := nodup_le (l := r) (m := m.erase x) h2 fun y hy => (List.mem_erase_of_ne (show y ≠ x from fun z => h1 (by rw [← z]; exact hy))).mpr (h y (List.mem_cons_of_mem _ hy))
    rw [List.length_erase_of_mem hx] at ih
    have := List.length_pos_of_mem hx
    rw [List.length_cons]
    omega
theorem sle_anti {a b : Str} (h1 : sle a b) (h2 : sle b a) : a = b := by
  unfold sle at h1 h2
  have e : a.cps.toList = b.cps.toList := List.le_antisymm h1 h2
  exact Str.ext' (by rw [← Array.toArray_toList (xs := a.cps), ← Array.toArray_toList (xs := b.cps), e])
theorem sorted_eq : ∀ {l m : List Str}, l.Pairwise sle → m.Pairwise sle → l.Nodup → m.Nodup → (∀ x, x ∈ l ↔ x ∈ m) → l = m
  | [], [], _, _, _, _, _ => rfl
  | [], y :: s, _, _, _, _, h => absurd ((h y).mpr List.mem_cons_self) (by simp)
  | x :: r, [], _, _, _, _, h => absurd ((h x).mp List.mem_cons_self) (by simp)
  | x :: r, y :: s, p, q, n, k, h => by
    obtain ⟨p1, p2⟩ := List.pairwise_cons.mp p
    obtain ⟨q1, q2⟩ := List.pairwise_cons.mp q
    obtain ⟨n1, n2⟩ := List.nodup_cons.mp n
    obtain ⟨k1, k2⟩ := List.nodup_cons.mp k
    have exy : x = y := by
      rcases List.mem_cons.mp ((h x).mp List.mem_cons_self) with e | e
      · exact e
      · rcases List.mem_cons.mp ((h y).mpr List.mem_cons_self) with f | f
        · exact f.symm
        · exact sle_anti (p1 y f) (q1 x e)
    subst exy
    congr 1
    refine sorted_eq p2 q2 n2 k2 fun z => ⟨fun hz => ?_, fun hz => ?_⟩
    · rcases List.mem_cons.mp ((h z).mp (List.mem_cons_of_mem _ hz)) with e | e
      · exact absurd (e ▸ hz) n1
      · exact e
    · rcases List.mem_cons.mp ((h z).mpr (List.mem_cons_of_mem _ hz)) with e | e
      · exact absurd (e ▸ hz) k1
      · exact e
end Dl
namespace Dl
open PySem L2
theorem dVal_drop {α : Type} {k x : Key} : ∀ {ks : List Key} {ds : List α}, ks.length = ds.length → dVal (dropKs ks k) (dropDs ks ds k) x = if x = k then none else dVal ks ds x
  | [], [], _ => by
    show dVal [] ([] : List α) x = _
    split <;> rfl
  | [], _ :: _, h => by simp at h
  | _ :: _, [], h => by simp at h
  | y :: ks, d :: ds, h => by
    have ih := dVal_drop (k := k) (x := x) (ks := ks) (ds := ds) (by simpa using h)
    rw [dropKs_cons]
    show dVal _ (if y = k then dropDs ks ds k else d :: dropDs ks ds k) x = _
    by_cases q : y = k
    · rw [if_pos q, if_pos q, ih, dVal_cons]
      by_cases z : x = k
      · rw [if_pos z, if_pos z]
      · rw [if_neg z, if_neg z, if_neg (fun u => z (u.symm.trans q))]
    · rw [if_neg q, if_neg q, dVal_cons, dVal_cons, ih]
      by_cases z : y = x
      · rw [if_pos z, if_pos z, if_neg (fun u => q (z.trans u))]
      · rw [if_neg z, if_neg z]
structure KdOk (ks : List Key) (ds : List D) (f : Str → Option Pc) : Prop where
  len : ks.length = ds.length
  nm : ∃ ns : List Str, ks = ns.map Sum.inr ∧ ns.Nodup ∧ ∀ n, n ∈ ns ↔ (f n).isSome = true
  val : ∀ n, dVal ks ds (.inr n) = (f n).map pcD
def updF (f : Str → Option Pc) (n : Str) (o : Option Pc) : Str → Option Pc := fun m => if m = n then o else f m
theorem kd_nil : KdOk [] [] fun _ => none := ⟨rfl, ⟨[], rfl, .nil, fun n => by simp⟩, fun _ => rfl⟩
theorem kd_congr {ks : List Key} {ds : List D} {f g : Str → Option Pc} (k : KdOk ks ds f) (h : ∀ n, g n = f n) : KdOk ks ds g := by
  have : g = f := funext h
  rw [this]; exact k
theorem put_nms {ns : List Str} {n : Str} (nd : ns.Nodup) : ∃ ms : List Str, putKs (ns.map Sum.inr) (.inr n) = ms.map (Sum.inr : Str → Key) ∧ ms.Nodup ∧ ∀ m, m ∈ ms ↔ m = n ∨ m ∈ ns := by
  have hin : hasK (ns.map Sum.inr) (.inr n) = true ↔ n ∈ ns := by
    rw [hasK_iff]
    constructor
    · intro h
      obtain ⟨m, hm, e⟩ := List.mem_map.mp h
      injection e with e
      rw [← e]; exact hm
    · intro h; exact List.mem_map_of_mem h
  unfold putKs
  by_cases h : hasK (ns.map Sum.inr) (.inr n) = true
  · rw [if_pos h]
    exact ⟨ns, rfl, nd, fun m => ⟨.inr, fun q => q.elim (fun q => q ▸ hin.mp h) id⟩⟩
  · rw [if_neg h]
    refine ⟨ns ++ [n], by rw [List.map_append]; rfl, ?_, fun m => by rw [List.mem_append, List.mem_singleton]; exact or_comm⟩
    rw [List.nodup_append]
    refine ⟨nd, by simp, fun a ha b hb => ?_⟩
    rw [List.mem_singleton] at hb
    subst hb
    intro e
    subst e
    exact h (hin.mpr ha)
theorem KdOk.put {ks : List Key} {ds : List D} {f : Str → Option Pc} {n : Str} {e : Pc} (k : KdOk ks ds f) : KdOk (putKs ks (.inr n)) (putDs ks ds (.inr n) (pcD e)) (updF f n (some e)) := by
  obtain ⟨ns, rfl, nd, mm⟩ := k.nm
  obtain ⟨ms, e1, nd', m'⟩ := put_nms (n := n) nd
  refine ⟨putDs_len k.len, ⟨ms, e1, nd', fun m => ?_⟩, fun m => ?_⟩
  · rw [m', mm]
    unfold updF
    by_cases z : m = n
    · rw [if_pos z]; simp [z]
    · rw [if_neg z]; simp [z]
  · rw [dVal_putD k.len, k.val]
    unfold updF
    by_cases z : m = n
    · rw [if_pos z, if_pos (by rw [z])]; rfl
    · rw [if_neg z, if_neg (fun u => z (by injection u))]
theorem drop_nms {ns : List Str} {n : Str} : dropKs (ns.map Sum.inr) (.inr n) = (ns.filter fun m => decide (m ≠ n)).map (Sum.inr : Str → Key) := by
  unfold dropKs
  rw [List.filter_map]
  congr 1
  refine List.filter_congr fun m _ => ?_
  show decide ((Sum.inr m : Key) ≠ Sum.inr n) = decide (m ≠ n)
  by_cases z : m = n
  · simp [z]
  · have : (Sum.inr m : Key) ≠ Sum.inr n := fun u => z (by injection u)
    simp [z, this]
theorem KdOk.drop {ks : List Key} {ds : List D} {f : Str → Option Pc} {n : Str} (k : KdOk ks ds f) : KdOk (dropKs ks (.inr n)) (dropDs ks ds (.inr n)) (updF f n none) := by
  obtain ⟨ns, rfl, nd, mm⟩ := k.nm
  refine ⟨dropDs_len k.len, ⟨_, drop_nms, nd.sublist List.filter_sublist, fun m => ?_⟩, fun m => ?_⟩
  · rw [List.mem_filter, mm, decide_eq_true_eq]
    unfold updF
    by_cases z : m = n
    · rw [if_pos z]; simp [z]
    · rw [if_neg z]; simp [z]
  · rw [dVal_drop k.len, k.val]
    unfold updF
    by_cases z : m = n
    · rw [if_pos z, if_pos (by rw [z])]; rfl
    · rw [if_neg z, if_neg (fun u => z (by injection u))]
theorem KdOk.gone {ks : List Key} {ds : List D} {f : Str → Option Pc} {n : Str} (k : KdOk ks ds f) : dVal (putKs ks (.inr n)) (putDs ks ds (.inr n) .non) (.inr n) = some .non ∧ KdOk (dropKs (putKs ks (.inr n)) (.inr n)) (dropDs (putKs ks (.inr n)) (putDs ks ds (.inr n) .non) (.inr n)) (updF f n none) := by
  obtain ⟨ns, rfl, nd, mm⟩ := k.nm
  obtain ⟨ms, e1, nd', m'⟩ := put_nms (n := n) nd
  have hl : (putKs (ns.map Sum.inr) (.inr n)).length = (putDs (ns.map Sum.inr) ds (.inr n) D.non).length := putDs_len k.len
  refine ⟨by rw [dVal_putD k.len, if_pos rfl], dropDs_len hl, ⟨_, by rw [e1, drop_nms], nd'.sublist List.filter_sublist, fun m => ?_⟩, fun m => ?_⟩
  · rw [List.mem_filter, m', mm, decide_eq_true_eq]
    unfold updF
    by_cases z : m = n
    · rw [if_pos z]; simp [z]
    · rw [if_neg z]; simp [z]
  · rw [dVal_drop hl, dVal_putD k.len, k.val]
    unfold updF
    by_cases z : m = n
    · rw [if_pos z, if_pos (by rw [z])]; rfl
    · rw [if_neg z, if_neg (fun u => z (by injection u)), if_neg (fun u => z (by injection u))]
theorem inNm_kd {ks : List Key} {ds : List D} {kv : Kpt} (k : KdOk ks ds (lkp kv)) (n : Str) : (dVal ks ds (.inr n)).isSome = inNm kv (.str n) := by
  rw [k.val, Option.isSome_map]; rfl
theorem set_upd {kv kv' : Kpt} {n : Str} {o : Option Pc} (s : SetTo kv n o kv') : ∀ m, lkp kv' m = updF (lkp kv) n o m := s.at_
inductive Wd where | put | drop | widen | change
def Wd.s : Wd → Str
  | .put => "put"
  | .drop => "drop"
  | .widen => "widen"
  | .change => "change"
def isRg : D → D → Bool
  | .int i, .int j => decide (i < j)
  | _, _ => false
inductive Did (kv : Kpt) : Wd → D → D → D → D → Str → Option Pc → Prop
  | put {n : Str} {t : Tr} {l h : Int} : GoodN n → lkp kv n = none → l < h → Did kv .put (.str n) (trL t) (.int l) (.int h) n (some (t, l, h))
  | drop {n : Str} {ln a b : D} {e : Pc} : lkp kv n = some e → Did kv .drop (.str n) ln a b n none
  | widen {n : Str} {ln : D} {l h : Int} {e : Pc} : lkp kv n = some e → l < h → Did kv .widen (.str n) ln (.int l) (.int h) n (some (e.1, min e.2.1 l, max e.2.2 h))
  | change {n : Str} {t : Tr} {a b : D} {e : Pc} : lkp kv n = some e → Did kv .change (.str n) (trL t) a b n (some (t, e.2.1, e.2.2))
def stL (told : List D) (n : Str) (o : Option Pc) : D := .tup [.tup told, .str n, oldD o]
structure NoLin (d : D) : Prop where
  ty : tyL d = true
  ln : isLn d = false
  pu : pureD d = true
structure NoRng (a b : D) : Prop where
  ta : tyL a = true
  tb : tyL b = true
  no : isRg a b = false
  pa : pureD a = true
  pb : pureD b = true
theorem NoRng.pu {a b : D} (n : NoRng a b) : pureD (.tup [a, b]) = true := by simp [pureD, pureL, n.pa, n.pb]
theorem NoRng.rg {a b : D} (n : NoRng a b) : ¬ ∃ i j : Int, a = .int i ∧ b = .int j ∧ i < j := fun ⟨i, j, e1, e2, lt⟩ => by
  have e := n.no
  rw [e1, e2] at e
  exact absurd lt (of_decide_eq_false e)
def StO (s : Str) (n : Nat) : Prop := s.length ≤ n ∧ ∀ c ∈ s.cps.toList, c ∈ ltrs.cps.toList
instance (s : Str) (n : Nat) : Decidable (StO s n) := by unfold StO; infer_instance
theorem let_at {i : Int} (i0 : 0 ≤ i) (i1 : i < 26) : ∃ c, L2.atI ltrs.cps.toList i = some c := by
  obtain ⟨j, rfl⟩ : ∃ j : Nat, i = j := ⟨i.toNat, by omega⟩
  have hl : ltrs.cps.toList.length = 26 := by decide +kernel
  exact ⟨_, atI_nat (List.getElem?_eq_getElem (by omega))⟩
theorem pure_strs : ∀ ns : List Str, pureL (ns.map D.str) = true
  | [] => rfl
  | _ :: r => by show (true && pureL (r.map D.str)) = true; rw [pure_strs r]; rfl
end Dl
namespace Dl
open PySem L2
section
variable {S : DSp} {txt : Int × Int × Int → Str}
structure OddN (S : DSp) (d : D) : Prop where
  ty : tyL d = true
  pu : pureD d = true
  no : isNm d = false
  sz : ∀ s, d = .str s → s.length ≤ 1000
  sn : ShU S (.tup [.str "name", d])
  su : ShU S (.tup [.str "unknown", d])
inductive EndV : D → Prop
  | int {i : Int} : Sm 100 i → EndV (.int i)
  | odd {d : D} : d ∈ [D.non, .bl false, .str "1", .lst [.int 1]] → EndV d
  | dct : EndV (.dct [] [])
theorem EndV.pu {d : D} (e : EndV d) : pureD d = true := by
  cases e with
  | int => rfl
  | dct => rfl
  | odd h =>
    simp only [List.mem_cons, List.not_mem_nil, or_false] at h
    rcases h with rfl | rfl | rfl | rfl <;> rfl
theorem EndV.ty {d : D} (e : EndV d) : tyL d = true := by
  cases e with
  | int => rfl
  | dct => rfl
  | odd h =>
    simp only [List.mem_cons, List.not_mem_nil, or_false] at h
    rcases h with rfl | rfl | rfl | rfl <;> rfl
structure EnO (e : Pc) : Prop where
  t : Sm 100 e.1.1
  p : Sm 100 e.1.2.1
  o : Sm 100 e.1.2.2
  l : Sm 100 e.2.1
  h : Sm 100 e.2.2
theorem EnO.sh (L : LnSh S txt) {e : Pc} (k : EnO e) : ShU S (pcD e) :=
  (gx_tup3 (gx_ln L (k.t.mono (by decide)) (k.p.mono (by decide)) (k.o.mono (by decide))) (gx_intN k.l (by decide) (by decide)) (gx_intN k.h (by decide) (by decide))).shu L (by decide) rfl (by simp [depX, depXL])
end
theorem let_ok : (ltrs.cps.toList.all fun c => decide (c < 1114112)) = true := by decide +kernel
theorem good_ok {n : Str} (g : GoodN n) : PyData.strOk n = true := by
  unfold PyData.strOk
  rw [← Array.all_toList, List.all_eq_true]
  exact fun c hc => List.all_eq_true.mp let_ok c (g.2.2 c hc)
theorem cmp_names (k : Nat) : ∀ {ns : List Str}, (∀ n ∈ ns, GoodN n) → cmpL (k + 1) (ns.map D.str) = true
  | [], _ => rfl
  | n :: r, h => by
    show (cmpD (k + 1) (.str n) && cmpL (k + 1) (r.map D.str)) = true
    rw [cmp_names k (ns := r) fun m hm => h m (List.mem_cons_of_mem _ hm)]
    show (PyData.strOk n && true) = true
    rw [good_ok (h n List.mem_cons_self)]; rfl
end Dl
namespace Dl
open PySem L2
inductive Hs : (Str → Option Pc) → List (List D × Option Pc) → Prop
  | nil : Hs (fun _ => none) []
  | snoc {f : Str → Option Pc} {ss : List (List D × Option Pc)} {told : List D} {n : Str} {o : Option Pc} : Hs f ss → nthD told 1 = some (.str n) → Hs (updF f n o) (ss ++ [(told, f n)])
theorem Hs.congr {f g : Str → Option Pc} {ss : List (List D × Option Pc)} (h : Hs f ss) (e : ∀ n, g n = f n) : Hs g ss := by
  have : g = f := funext e
  rw [this]; exact h
theorem Hs.last {g : Str → Option Pc} {ss : List (List D × Option Pc)} {told : List D} {old : Option Pc} {n : Str} (h : Hs g (ss ++ [(told, old)])) (hn : nthD told 1 = some (.str n)) : ∃ f, Hs f ss ∧ old = f n ∧ ∀ m, updF g n old m = f m := by
  generalize e : ss ++ [(told, old)] = tt at h
  cases h with
  | nil => simp at e
  | @snoc f ss' told' n' o h' hn' =>
    obtain ⟨rfl, e2⟩ := List.append_inj' e rfl
    simp only [List.cons.injEq, Prod.mk.injEq, and_true] at e2
    obtain ⟨rfl, rfl⟩ := e2
    rw [hn] at hn'
    cases hn'
    refine ⟨f, h', rfl, fun m => ?_⟩
    unfold updF
    by_cases z : m = n
    · rw [if_pos z, z]
    · rw [if_neg z, if_neg z]
theorem Hs.none {g : Str → Option Pc} (h : Hs g []) : ∀ n, g n = none := by
  generalize e : ([] : List (List D × Option Pc)) = tt at h
  cases h with
  | nil => exact fun _ => rfl
  | snoc _ _ => simp at e
end Dl
namespace Dl
open PySem L2
structure EnS (x : Tr) (e : Pc) : Prop where
  d : DOk e.1 e.2.1 e.2.2
  s8 : Sm 898 e.1.2.1
  lt : e.2.1 < e.2.2
  ag : Agr x e.1 e.2.1 e.2.2
structure LnS (x : Tr) (l h : Int) : Prop where
  pt : PtOk x
  sl : Sm 41 l
  sh : Sm 41 h
  lt : l < h
  vs : ∀ n, l ≤ n → n ≤ h → Sm 60 (vl x n)
theorem LnS.s8 {x : Tr} {l h : Int} (s : LnS x l h) : Sm 898 x.2.1 := s.pt.nr.p.mono (by decide)
theorem LnS.ss {x : Tr} {l h : Int} (s : LnS x l h) : Sm 100 (h - l) := (Sm.sub s.sh s.sl).mono (by decide)
theorem not_all {P : List Pc} {e : Pc} (he : e ∈ P) (o1 : 1 ≤ e.1.2.2) (lt : e.2.1 < e.2.2) : ∃ u v, 1 ≤ v ∧ ¬ SlP P u v := by
  obtain ⟨I, sI⟩ := slo_exI e.1 lt
  have q1 := (sI.ok o1).q1
  refine ⟨I.p1, I.q1, q1, fun ⟨w, a⟩ => ?_⟩
  obtain ⟨b1, b2⟩ := (agr_of_slp (Int.le_of_lt lt) q1).mp (a e he)
  have := ((inI_iff (u := I.p1) sI o1 q1).mpr (room_slp (Int.le_of_lt lt) (by omega))).lo
  omega
end Dl
namespace Dl
open PySem L2
theorem lm_eq {I J : Iv} {s : Int} (oi : IOk I) (oj : IOk J) (s1 : 1 ≤ s) (h : ∀ u, InI I u s ↔ InI J u s) (ne : InI I (lwM I.p1 I.q1 s) s) : lwM I.p1 I.q1 s = lwM J.p1 J.q1 s ∧ moM I.p2 I.q2 s = moM J.p2 J.q2 s := by
  have hi := fun u => in_iff (m := u) oi s1
  have hj := fun u => in_iff (m := u) oj s1
  have nj := (h _).mp ne
  have a1 := (hi _).mp ne
  have a2 := (hj _).mp nj
  have mi : InI I (moM I.p2 I.q2 s) s := (hi _).mpr ⟨a1.2, Int.le_refl _⟩
  have b1 := (hj _).mp ((h _).mp mi)
  have lj : InI J (lwM J.p1 J.q1 s) s := (hj _).mpr ⟨Int.le_refl _, by omega⟩
  have c1 := (hi _).mp ((h _).mpr lj)
  have mj : InI J (moM J.p2 J.q2 s) s := (hj _).mpr ⟨by omega, Int.le_refl _⟩
  have d1 := (hi _).mp ((h _).mpr mj)
  exact ⟨by omega, by omega⟩
def PRes (P : List Pc) (r : D) : Prop := ((∀ u v, 1 ≤ v → ¬ SlP P u v) ∧ r = .non) ∨
  ∃ (I : Iv) (m w : Int) (k : Nat), IOk I ∧ (∀ u v, 1 ≤ v → (SlP P u v ↔ InI I u v)) ∧ NoS I 2 k ∧ InI I (lwM I.p1 I.q1 (2 ^ k)) (2 ^ k) ∧ m = min (max (lwM I.p1 I.q1 (2 ^ k)) 0) (moM I.p2 I.q2 (2 ^ k)) ∧ OkP P m w (2 ^ k) ∧ (∀ w', OkP P m w' (2 ^ k) → w ≤ w') ∧ r = .tup [.int m, .int w, .int k]
theorem PRes.cmp {P : List Pc} {r : D} (h : PRes P r) : cmpD 64 r = true ∧ pureD r = true := by
  rcases h with ⟨_, rfl⟩ | ⟨I, m, w, k, _, _, _, _, _, _, _, rfl⟩
  · exact ⟨rfl, rfl⟩
  · exact ⟨rfl, rfl⟩
theorem PRes.uniq {P : List Pc} {r s : D} (h : PRes P r) (g : PRes P s) : r = s := by
  rcases h with ⟨n1, rfl⟩ | ⟨I, m, w, k, sz, iv, no, hin, em, ok, mn, rfl⟩ <;> rcases g with ⟨n2, rfl⟩ | ⟨J, m', w', k', sz', iv', no', hin', em', ok', mn', rfl⟩
  · rfl
  · exact absurd ((iv' _ _ (pow_one_le (by decide) k')).mpr hin') (n1 _ _ (pow_one_le (by decide) k'))
  · exact absurd ((iv _ _ (pow_one_le (by decide) k)).mpr hin) (n2 _ _ (pow_one_le (by decide) k))
  · have ij : ∀ u v, 1 ≤ v → (InI I u v ↔ InI J u v) := fun u v v1 => (iv u v v1).symm.trans (iv' u v v1)
    have ek : k = k' := by
      rcases Nat.lt_trichotomy k k' with z | z | z
      · exact absurd ((ij _ _ (pow_one_le (by decide) k)).mp hin) (no' k z _)
      · exact z
      · exact absurd ((ij _ _ (pow_one_le (by decide) k')).mpr hin') (no k' z _)
    subst ek
    obtain ⟨e1, e2⟩ := lm_eq sz sz' (pow_one_le (by decide) k) (fun u => ij u _ (pow_one_le (by decide) k)) hin
    have e3 : m = m' := by rw [em, em', e1, e2]
    subst e3
    have e4 : w = w' := by
      have a1 := mn _ ok'
      have a2 := mn' _ ok
      omega
    rw [e4]
end Dl
local macro_rules | `(tactic| walk_at "v") => `(tactic| try simp (config := {maxSteps := 2000000}) only [Dl.e_vLstOO, Dl.e_vAppendO, Dl.e_oIxO, Dl.e_vTryF, Dl.f_ixTx, Dl.f_mulS, Dl.e_oLenU, Dl.e_oInU, Dl.e_vDPop, Dl.f_sortS, Dl.lkE, Dl.f_repT, Dl.e_vObjOX, Dl.f_inW2, Dl.f_inW3, Dl.f_eqNt, Dl.f_isF, Dl.f_eqNO, Dl.e_vDGet, Dl.e_vDGet1, Dl.e_vDPut, Dl.e_vDctO, Dl.e_vKeysL, Dl.e_wStr, Dl.e_oInSg, Dl.e_vObjV, Dl.okF_dct, Dl.okF_ln, Dl.fldD_dct, Dl.dctI_dct, Dl.dctI_same, Dl.f_lenDc, Dl.f_inDc, Dl.f_dictc, Dl.f_dictOc, Dl.k_str, Dl.k_int, Dl.e_vRaise0, Dl.pkm1, Dl.pkm2, Dl.pkm3, Dl.pkm4, Dl.pkm5, Dl.pkm6, Dl.f_cls, Dl.f_strI, Dl.e_vFmt, Dl.e_vFs, Dl.e_vJs0, Dl.e_vJs1, Dl.e_oReprL, Dl.strsOf, Dl.f_eqNl, Dl.e_oReprX, Dl.e_vPopI, Dl.e_vDct0, Dl.f_catT, Dl.e_vFldO, Dl.e_vSetF, Dl.e_vObjO, Dl.e_vMakeO, Dl.putD_nil, Dl.putD_z, Dl.putD_s, Dl.okF_own, Dl.okF_int, Dl.okF_bl, Dl.okF_non, Dl.okF_tup, Dl.okF_lst, Dl.fldD_own, Dl.fldD_int, Dl.fldD_bl, Dl.fldD_tup, Dl.fldD_lst, Dl.word_beq, Dl.xdD, if_true, if_false, K96.in_InvalidLine, K96.nf_InvalidLine, K96.fl_InvalidLine, K96.in_InvalidRange, K96.nf_InvalidRange, K96.fl_InvalidRange, K96.in_InvalidNumber, K96.nf_InvalidNumber, K96.fl_InvalidNumber, K96.in_InvalidList, K96.nf_InvalidList, K96.fl_InvalidList, K96.in_UnknownName, K96.nf_UnknownName, K96.fl_UnknownName, K96.in_TakenName, K96.nf_TakenName, K96.fl_TakenName, K96.in_InvalidName, K96.nf_InvalidName, K96.fl_InvalidName, K96.in_NothingToUndo, K96.nf_NothingToUndo, K96.fl_NothingToUndo, Dl.f_eqE, Dl.f_isB, Dl.pk32, Dl.pk42, Dl.pk52, Dl.unrollL_cons, Dl.unrollL_nil, Dl.e_vL, Dl.e_tL, Dl.e_aL, Dl.e_vDropX, Dl.e_xxx, Dl.e_xnx, Dl.e_xrt, Dl.f_nEx, Dl.f_nE0, Dl.f_tyD, Dl.f_nD, Dl.f_wD, Dl.f_wLn, Dl.e_vIsiL, Dl.e_vAugL, Dl.lstI, Dl.f_ltT2, Dl.pk01, Dl.pk02, Dl.pk03, Dl.pk04, Dl.pk05, Dl.pk06, Dl.pk07, Dl.pk08, Dl.pk11, Dl.pk21, Dl.pk31, Dl.pk41, Dl.pk51, Dl.cp10, Dl.f_rep, Dl.f_reprB, Dl.f_reprN, Dl.f_reprI, Dl.e_vObj, Dl.f_addOLL, Dl.e_vRev, Dl.f_lnL, Dl.e_vNegL, Dl.e_vParts, Dl.e_vLine, Dl.e_vIsL, Dl.f_subO, Dl.f_subN, Dl.f_tyLn, Dl.l_non, Dl.l_bl, Dl.l_int, Dl.l_str, Dl.l_tup, Dl.l_lst, Dl.l_scr, Dl.l_own, Dl.l_dct, Dl.t_ln, Dl.t_non, Dl.t_bl, Dl.t_int, Dl.t_str, Dl.t_tup, Dl.t_lst, Dl.t_own, Dl.t_dct, Dl.e_vSeq, Dl.e_wEnum, Dl.e_oMax1, Dl.f_intsL, Dl.f_eqW, Dl.f_in2, Dl.f_in4, String.reduceEq, decide_true, decide_false, Bool.true_or, Bool.or_true, Bool.false_or, Bool.or_false, Dl.intsD_map, Dl.e_oSorted, Dl.e_vPop, Dl.e_vIf, Dl.e_vB, Dl.e_vOp, Dl.e_vVar, Dl.e_vC, Dl.e_vNever, Dl.e_vNext, Dl.e_vRet, Dl.e_vDrop, Dl.e_vBreak, Dl.e_vAnd, Dl.e_vOr, Dl.e_vNot, Dl.e_vAndV, Dl.e_vNotV, Dl.e_vIte, Dl.e_vIsN, Dl.e_vIsi, Dl.e_vNeg, Dl.e_vNil, Dl.e_vCons, Dl.e_vTup, Dl.e_vLst, Dl.e_vLstO, Dl.e_vIxC, Dl.e_vSl, Dl.e_vNoPart, Dl.e_vPart, Dl.e_vChain, Dl.e_vCB, Dl.e_vBits, Dl.e_vCall, Dl.e_vAsg, Dl.e_vPar, Dl.e_vAug, Dl.e_vAppend, Dl.e_vYes, Dl.e_dName, Dl.e_dNil, Dl.e_dCons, Dl.e_dTup, Dl.e_dSub, Dl.f_oI, Dl.f_oI0, Dl.f_addI, Dl.f_addS, Dl.f_addLL, Dl.f_addOL, Dl.f_addLO, Dl.f_eqI, Dl.f_eqB, Dl.f_eqNI, Dl.f_eqIN, Dl.f_eqNN, Dl.f_ixL, Dl.f_ixT, Dl.f_ixS, Dl.f_ixO, Dl.f_C1, Dl.f_C2, Dl.f_intI, Dl.f_intB, Dl.f_lenS, Dl.f_lenL, Dl.f_lenT, Dl.f_lenC, Dl.f_lenO, Dl.f_listL, Dl.f_listT, Dl.f_listOL, Dl.f_listOT, Dl.f_sumL, Dl.e_wList, Dl.e_wTup, Dl.e_wRng1, Dl.liD, Dl.gt, Dl.gset, Dl.gwipe, Dl.st0, Dl.e_frt, Dl.e_fnx, Dl.e_fbk, Dl.e_fct, Dl.nthD, Dl.f_sqL, Dl.f_sqT, Dl.f_sqC, Dl.f_sqO, Dl.f_itL, Dl.f_itT, Dl.f_itC, Dl.f_itO, Dl.f_tmN, Dl.f_tmB, Dl.f_tmI, Dl.f_tmS, Dl.f_tmT, Dl.f_tmL, Dl.f_tmD, Dl.f_tmO, Dl.lstAt_set, Dl.f_tyN, Dl.f_tyB, Dl.f_tyI, Dl.f_tyS, Dl.f_tyT, Dl.f_tyL, Dl.f_tyO, Dl.Ty.sub, Dl.f_nN, Dl.f_nB, Dl.f_nI, Dl.f_nS, Dl.f_nT, Dl.f_nL, Dl.f_nO, Dl.f_nLn, Dl.f_wN, Dl.f_wB, Dl.f_wI, Dl.f_wS, Dl.f_wT, Dl.f_wL, Dl.f_wO, Dl.pureD, Dl.pureL, Dl.constL, Dl.constV, List.set_cons_succ, List.set_cons_zero, List.map_nil, List.map_cons, List.append_nil, List.nil_append, List.cons_append, List.length_cons, List.length_nil, Nat.zero_add, Nat.reduceAdd, id_eq, Bool.not_true, Bool.not_false, Bool.and_self, Bool.true_and, Bool.and_true, Bool.false_and, Bool.and_false, Bool.false_eq_true, Bool.true_eq_false, reduceCtorEq, false_implies, forall_const, Int.cast_ofNat_Int, Int.reduceEq, Int.reduceLT, Int.reduceLE, Int.reduceToNat, ne_eq, not_true_eq_false, not_false_eq_true, eq_self, Int.one_mul, Int.zero_add, Int.add_zero, Dl.mset_same, Dl.mset_set, Dl.cp1, Dl.cp2, Dl.cp3, Dl.cp3', Dl.cp4, Dl.cp5, Dl.cp6, Dl.cp7, Dl.cp8, true_and, and_true, implies_true, true_implies, decide_eq_true_eq, decide_eq_false_iff_not, Bool.not_eq_true', Bool.not_eq_false'])
local macro_rules | `(tactic| walk_at "w") => `(tactic| try simp (config := {maxSteps := 2000000}) only [Dl.e_vLstOO, Dl.e_vAppendO, Dl.e_oIxO, Dl.e_vTryF, Dl.f_ixTx, Dl.f_mulS, Dl.e_oLenU, Dl.e_oInU, Dl.e_vDPop, Dl.f_sortS, Dl.lkE, Dl.f_repT, Dl.e_vObjOX, Dl.f_inW2, Dl.f_inW3, Dl.f_eqNt, Dl.f_isF, Dl.f_eqNO, Dl.e_vDGet, Dl.e_vDGet1, Dl.e_vDPut, Dl.e_vDctO, Dl.e_vKeysL, Dl.e_wStr, Dl.e_oInSg, Dl.e_vObjV, Dl.okF_dct, Dl.okF_ln, Dl.fldD_dct, Dl.dctI_dct, Dl.dctI_same, Dl.f_lenDc, Dl.f_inDc, Dl.f_dictc, Dl.f_dictOc, Dl.k_str, Dl.k_int, Dl.e_vRaise0, Dl.pkm1, Dl.pkm2, Dl.pkm3, Dl.pkm4, Dl.pkm5, Dl.pkm6, Dl.f_cls, Dl.f_strI, Dl.e_vFmt, Dl.e_vFs, Dl.e_vJs0, Dl.e_vJs1, Dl.e_oReprL, Dl.strsOf, Dl.f_eqNl, Dl.e_oReprX, Dl.e_vPopI, Dl.e_vDct0, Dl.f_catT, Dl.e_vFldO, Dl.e_vSetF, Dl.e_vObjO, Dl.e_vMakeO, Dl.putD_nil, Dl.putD_z, Dl.putD_s, Dl.okF_own, Dl.okF_int, Dl.okF_bl, Dl.okF_non, Dl.okF_tup, Dl.okF_lst, Dl.fldD_own, Dl.fldD_int, Dl.fldD_bl, Dl.fldD_tup, Dl.fldD_lst, Dl.word_beq, Dl.xdD, if_true, if_false, K96.in_InvalidLine, K96.nf_InvalidLine, K96.fl_InvalidLine, K96.in_InvalidRange, K96.nf_InvalidRange, K96.fl_InvalidRange, K96.in_InvalidNumber, K96.nf_InvalidNumber, K96.fl_InvalidNumber, K96.in_InvalidList, K96.nf_InvalidList, K96.fl_InvalidList, K96.in_UnknownName, K96.nf_UnknownName, K96.fl_UnknownName, K96.in_TakenName, K96.nf_TakenName, K96.fl_TakenName, K96.in_InvalidName, K96.nf_InvalidName, K96.fl_InvalidName, K96.in_NothingToUndo, K96.nf_NothingToUndo, K96.fl_NothingToUndo, Dl.f_eqE, Dl.f_isB, Dl.pk32, Dl.pk42, Dl.pk52, Dl.unrollL_cons, Dl.unrollL_nil, Dl.e_vL, Dl.e_tL, Dl.e_aL, Dl.e_vDropX, Dl.e_xxx, Dl.e_xnx, Dl.e_xrt, Dl.f_nEx, Dl.f_nE0, Dl.f_tyD, Dl.f_nD, Dl.f_wD, Dl.f_wLn, Dl.e_vIsiL, Dl.e_vAugL, Dl.lstI, Dl.f_ltT2, Dl.pk01, Dl.pk02, Dl.pk03, Dl.pk04, Dl.pk05, Dl.pk06, Dl.pk07, Dl.pk08, Dl.pk11, Dl.pk21, Dl.pk31, Dl.pk41, Dl.pk51, Dl.cp10, Dl.f_rep, Dl.f_reprB, Dl.f_reprN, Dl.f_reprI, Dl.e_vObj, Dl.f_addOLL, Dl.e_vRev, Dl.f_lnL, Dl.e_vNegL, Dl.e_vParts, Dl.e_vLine, Dl.e_vIsL, Dl.f_subO, Dl.f_subN, Dl.f_tyLn, Dl.l_non, Dl.l_bl, Dl.l_int, Dl.l_str, Dl.l_tup, Dl.l_lst, Dl.l_scr, Dl.l_own, Dl.l_dct, Dl.t_ln, Dl.t_non, Dl.t_bl, Dl.t_int, Dl.t_str, Dl.t_tup, Dl.t_lst, Dl.t_own, Dl.t_dct, Nat.zero_le, Dl.sz1, Dl.sz2, Dl.sz3, Dl.sz4, Dl.sz5, Dl.sz6, Dl.sz7, Dl.sz8, Dl.sz9, Dl.sz10, Dl.sz11, Dl.sz12, Dl.sz13, Dl.sz14, Dl.sz15, Dl.sz16, Dl.sl0, Dl.sl1, Dl.sl2, Dl.sl3, Dl.sl4, Dl.sl5, Dl.sl6, Dl.sl7, Dl.sl8, Dl.sl9, Dl.sl10, Dl.sl11, Dl.sl12, Dl.sl13, Dl.sl14, Dl.sl15, Dl.sl16, Dl.e_vSeq, Dl.e_wEnum, Dl.e_oMax1, Dl.f_intsL, Dl.f_eqW, Dl.f_in2, Dl.f_in4, String.reduceEq, decide_true, decide_false, Bool.true_or, Bool.or_true, Bool.false_or, Bool.or_false, Dl.intsD_map, Dl.e_oSorted, Dl.e_vPop, Dl.e_vIf, Dl.e_vB, Dl.e_vOp, Dl.e_vVar, Dl.e_vC, Dl.e_vNever, Dl.e_vNext, Dl.e_vRet, Dl.e_vDrop, Dl.e_vBreak, Dl.e_vAnd, Dl.e_vOr, Dl.e_vNot, Dl.e_vAndV, Dl.e_vNotV, Dl.e_vIte, Dl.e_vIsN, Dl.e_vIsi, Dl.e_vNeg, Dl.e_vNil, Dl.e_vCons, Dl.e_vTup, Dl.e_vLst, Dl.e_vLstO, Dl.e_vIxC, Dl.e_vSl, Dl.e_vNoPart, Dl.e_vPart, Dl.e_vChain, Dl.e_vCB, Dl.e_vBits, Dl.e_vCall, Dl.e_vAsg, Dl.e_vPar, Dl.e_vAug, Dl.e_vAppend, Dl.e_vYes, Dl.e_dName, Dl.e_dNil, Dl.e_dCons, Dl.e_dTup, Dl.e_dSub, Dl.f_oI, Dl.f_oI0, Dl.f_addI, Dl.f_addS, Dl.f_addLL, Dl.f_addOL, Dl.f_addLO, Dl.f_eqI, Dl.f_eqB, Dl.f_eqNI, Dl.f_eqIN, Dl.f_eqNN, Dl.f_ixL, Dl.f_ixT, Dl.f_ixS, Dl.f_ixO, Dl.f_C1, Dl.f_C2, Dl.f_intI, Dl.f_intB, Dl.f_lenS, Dl.f_lenL, Dl.f_lenT, Dl.f_lenC, Dl.f_lenO, Dl.f_listL, Dl.f_listT, Dl.f_listOL, Dl.f_listOT, Dl.f_sumL, Dl.e_wList, Dl.e_wTup, Dl.e_wRng1, Dl.liD, Dl.gt, Dl.gset, Dl.gwipe, Dl.st0, Dl.e_frt, Dl.e_fnx, Dl.e_fbk, Dl.e_fct, Dl.nthD, Dl.f_sqL, Dl.f_sqT, Dl.f_sqC, Dl.f_sqO, Dl.f_itL, Dl.f_itT, Dl.f_itC, Dl.f_itO, Dl.f_tmN, Dl.f_tmB, Dl.f_tmI, Dl.f_tmS, Dl.f_tmT, Dl.f_tmL, Dl.f_tmD, Dl.f_tmO, Dl.lstAt_set, Dl.f_tyN, Dl.f_tyB, Dl.f_tyI, Dl.f_tyS, Dl.f_tyT, Dl.f_tyL, Dl.f_tyO, Dl.Ty.sub, Dl.f_nN, Dl.f_nB, Dl.f_nI, Dl.f_nS, Dl.f_nT, Dl.f_nL, Dl.f_nO, Dl.f_nLn, Dl.f_wN, Dl.f_wB, Dl.f_wI, Dl.f_wS, Dl.f_wT, Dl.f_wL, Dl.f_wO, Dl.pureD, Dl.pureL, Dl.constL, Dl.constV, List.set_cons_succ, List.set_cons_zero, List.map_nil, List.map_cons, List.append_nil, List.nil_append, List.cons_append, List.length_cons, List.length_nil, Nat.zero_add, Nat.reduceAdd, id_eq, Bool.not_true, Bool.not_false, Bool.and_self, Bool.true_and, Bool.and_true, Bool.false_and, Bool.and_false, Bool.false_eq_true, Bool.true_eq_false, reduceCtorEq, false_implies, forall_const, Int.cast_ofNat_Int, Int.reduceEq, Int.reduceLT, Int.reduceLE, Int.reduceToNat, ne_eq, not_true_eq_false, not_false_eq_true, eq_self, Int.one_mul, Int.zero_add, Int.add_zero, Dl.mset_same, Dl.mset_set, Dl.cp1, Dl.cp2, Dl.cp3, Dl.cp3', Dl.cp4, Dl.cp5, Dl.cp6, Dl.cp7, Dl.cp8, true_and, and_true, implies_true, true_implies, decide_eq_true_eq, decide_eq_false_iff_not, Bool.not_eq_true', Bool.not_eq_false'])
namespace K96
open PySem L2 Dl
structure Txt (K : PySem.W.Frag) (mg : Str → Option Value) : Prop where
  b_abs : mg "abs" = none
  b_bool : mg "bool" = none
  b_dict : mg "dict" = none
  b_enumerate : mg "enumerate" = none
  b_int : mg "int" = none
  b_isinstance : mg "isinstance" = none
  b_len : mg "len" = none
  b_list : mg "list" = none
  b_max : mg "max" = none
  b_min : mg "min" = none
  b_range : mg "range" = none
  b_repr : mg "repr" = none
  b_sorted : mg "sorted" = none
  b_str : mg "str" = none
  b_sum : mg "sum" = none
  b_tuple : mg "tuple" = none
  c_LETTERS : ∃ t, mg "LETTERS" = some (.str "abcdefghijklmnopqrstuvwxyz" t)
  g_FourTestsError : mg "FourTestsError" = some (.ref (He.ga K "FourTestsError"))
abbrev N_is_whole : List Str := ["value"]
theorem sc_is_whole : FnScope N_is_whole ["value"] (defScope s_is_whole) := ⟨rfl, rfl, rfl, by decide +kernel, rfl, by decide +kernel, by decide +kernel⟩
def S_is_whole : DSp := fun ds M R _ => ∃ d, ds = [d] ∧ tyL d = true ∧ R (.bl (isIntD d)) M
theorem ok_is_whole {P : Program} {w : World} {K : PySem.W.Frag} {mg : Str → Option Value} {base : Heap} {C f : Addr} {fd : FuncData} (T : Txt K mg) (F : FunD K "is_whole" "is_whole" (defArgs s_is_whole) (defBody s_is_whole) (defScope s_is_whole) [] [] f fd) (h_isL : IsiF K mg C) : FnOk P w K mg base CX0 1 f fd ["value"] (spD ⟨K, C⟩ 1 S_is_whole) := by
  have nd := sc_is_whole.nd
  refine fn_ok 1 1 F sc_is_whole (fun cdv A outer s H E hr =>
      (qss_one (qs_ret (q_and (q_isiL .int h_isL (qv 0) rfl T.b_isinstance bb_isinstance rfl T.b_int bb_int) (q_one (q_not (q_isiL .bl h_isL (qv 0) rfl T.b_isinstance bb_isinstance rfl T.b_bool bb_bool))))))) ?_
  rintro ds M R - ⟨d, rfl, ht, hR⟩
  cases d with
  | scr _ => cases ht
  | own _ => cases ht
  | exn _ _ => cases ht
  | exn0 _ => cases ht
  | cls => cases ht
  | _ => walk_at "w"; exact fin_pure hR
abbrev N_check_parts : List Str := ["times", "plus", "over"]
theorem sc_check_parts : FnScope N_check_parts ["times", "plus", "over"] (defScope s_check_parts) := ⟨rfl, rfl, rfl, by decide +kernel, rfl, by decide +kernel, by decide +kernel⟩
def S_check_parts : DSp := fun ds M R _ => ∃ t p o, ds = [.int t, .int p, .int o] ∧ 1 ≤ o ∧ R .non M
theorem ok_check_parts {P : Program} {w : World} {K : PySem.W.Frag} {mg : Str → Option Value} {base : Heap} {C f : Addr} {fd : FuncData} (T : Txt K mg) (F : FunD K "check_parts" "check_parts" (defArgs s_check_parts) (defBody s_check_parts) (defScope s_check_parts) [] [] f fd) (h_is_whole : CallOk P w K mg base C 1 "is_whole" 1 S_is_whole []) : FnOk P w K mg base CX0 2 f fd ["times", "plus", "over"] (spD ⟨K, C⟩ 3 S_check_parts) := by
  have nd := sc_check_parts.nd
  refine fn_ok 3 3 F sc_check_parts (fun cdv A outer s H E hr =>
      (qss_one (qs_if (QW.qt (qw_or (qt_not (qt_val (qc h_is_whole hr (by decide) (qa_cons (qv 0) qa_nil)))) (qw_or (qt_not (qt_val (qc h_is_whole hr (by decide) (qa_cons (qv 1) qa_nil)))) (qw_or (qt_not (qt_val (qc h_is_whole hr (by decide) (qa_cons (qv 2) qa_nil)))) (qw_or1 (qt_cmp c_lt (qv 2) qi))))))
        (qss_one qs_never)
        qss_nil))) ?_
  rintro ds M R - ⟨t, p, o, rfl, ho, hR⟩
  walk_at "w"
  refine ⟨_, rfl, rfl, ?_⟩
  walk_at "w"
  refine ⟨_, rfl, rfl, ?_⟩
  walk_at "w"
  refine ⟨_, rfl, rfl, ?_⟩
  walk_at "w"
  exact ⟨fun z => by omega, fun _ => fin_pure hR⟩
abbrev N_Line___init__ : List Str := ["self", "times", "plus", "over"]
theorem sc_Line___init__ : FnScope N_Line___init__ ["self", "times", "plus", "over"] (defScope s_Line___init__) := ⟨rfl, rfl, rfl, by decide +kernel, rfl, by decide +kernel, by decide +kernel⟩
theorem ok_Line___init__ {P : Program} {w : World} {K : PySem.W.Frag} {mg : Str → Option Value} {base : Heap} {C f : Addr} {fd : FuncData} (T : Txt K mg) (F : FunD K "__init__" "Line.__init__" (defArgs s_Line___init__) (defBody s_Line___init__) (defScope s_Line___init__) [] [] f fd) (h_check_parts : CallOk P w K mg base C 2 "check_parts" 3 S_check_parts []) (cl : Cls K C ∧ NoAttr K C "parts") : FnOk P w K mg base CX0 3 f fd ["self", "times", "plus", "over"] (spLn C) := by
  have nd := sc_Line___init__.nd
  obtain ⟨g, gd, gps, gds, gdv, m1, m2, m3, m4, m5, m6⟩ := h_check_parts.ex
  have e0 : gdv = [] := by cases m6; rfl
  subst e0
  refine F.ok sc_Line___init__ (fun vs H Q E h => by obtain ⟨x, dx, t, p, o, e, _⟩ := h; rw [e]; rfl) (fun cdv A outer s H vs Q E hr h => ?_)
  obtain ⟨x, dx, t, p, o, rfl, hx, ho, kk⟩ := h
  refine ⟨_, pss_cons (ps_expr (pe_call m3 hr (by rfl) m1 m2 m4 m5 pass0 (pa_cons (pv 1) (pa_cons (pv 2) (pa_cons (pv 3) pa_nil))))) (pss_one (ps_fld (pv 0) (pe_tup (pa_cons (pv 1) (pa_cons (pv 2) (pa_cons (pv 3) pa_nil)))) rfl)), ?_⟩
  refine ⟨_, rfl, _, rfl, _, rfl, [.int t, .int p, .int o], fun _ => none, fun d _ => d = .non, rfl, IsL.cons is_int (IsL.cons is_int (IsL.cons is_int IsL.nil)), fun _ _ e => (nomatch e), ⟨t, p, o, rfl, ho, rfl⟩, fun d M' y H1 o1 i1 e1 hd => ?_⟩
  have hx1 : H1 x = some (.ins C dx []) := (e1.st x _ rfl hx).1
  refine ⟨_, rfl, _, rfl, _, rfl, by show 3 ≤ sizeLine; decide, fun q hq => ?_⟩
  have nq : q ≠ x := fun z => by rw [z, hx1] at hq; cases hq
  have hq0 : H q = none := by
    cases z : H q with
    | none => rfl
    | some u => rw [(e1.st q u rfl z).1] at hq; cases hq
  refine ⟨_, rfl, x, C, dx, [], rfl, by rw [upd_ne nq.symm]; exact hx1, cl.1, cl.2, by decide, ?_⟩
  refine kk q _ (fun b u hb hu => ?_) hq0 nq upd_same (by rw [upd_ne nq, upd_same])
  have nb : b ≠ q := fun z => by rw [z, hq0] at hu; cases hu
  rw [upd_ne hb, upd_ne nb]
  exact (e1.st b u rfl hu).1
abbrev N__law_mixed : List Str := ["_law_cell", "_law_k", "_law_number"]
theorem sc__law_mixed : FnScope N__law_mixed ["_law_cell", "_law_k"] (defScope s__law_mixed) := ⟨rfl, rfl, rfl, by decide +kernel, rfl, by decide +kernel, by decide +kernel⟩
def S__law_mixed : DSp := fun ds M R _ => ∃ c k, ds = [.int c, .int k] ∧ 0 ≤ k ∧ k < 4611686018427387904 ∧ ∀ r : Int, R (.int r) M
theorem ok__law_mixed {P : Program} {w : World} {K : PySem.W.Frag} {mg : Str → Option Value} {base : Heap} {C f : Addr} {fd : FuncData} (T : Txt K mg) (F : FunD K "_law_mixed" "_law_mixed" (defArgs s__law_mixed) (defBody s__law_mixed) (defScope s__law_mixed) [] [] f fd)  : FnOk P w K mg base CX0 1 f fd ["_law_cell", "_law_k"] (spD ⟨K, C⟩ 2 S__law_mixed) := by
  have nd := sc__law_mixed.nd
  refine fn_ok 3 2 F sc__law_mixed (fun cdv A outer s H E hr =>
      (qss_cons (qs_set (i := 2) nd (q_mod (q_add (q_add (q_add (q_mul (qv 0) qi) (q_mul (q_mul qi (qv 1)) (qv 1))) (qv 1)) qi) qi))
      (qss_cons (qs_set (i := 2) nd (q_mod (q_add (q_mul (qv 2) (qv 2)) qi) qi))
      (qss_one (qs_ret (q_mod (q_mul (qv 2) qi) qi)))))) ?_
  rintro ds M R - ⟨c, k, rfl, h0, h1, hR⟩
  walk_at "v"
  have m2 : ∀ z : Int, Sm 64 (z % 2147483647) := fun z => sm64 (by omega) (by omega)
  refine ⟨mulR (by omega) (by omega), mulL (by omega) (by omega), mulR (by omega) (by omega), mul_okL (m2 _), mulR (by omega) (by omega), fin_pure (hR _)⟩
abbrev N__law_draw : List Str := ["_law_purse_here", "_law_out_of", "_law_drawn", "_law_number", "_law_k"]
theorem sc__law_draw : FnScope N__law_draw ["_law_purse_here", "_law_out_of"] (defScope s__law_draw) := ⟨rfl, rfl, rfl, by decide +kernel, rfl, by decide +kernel, by decide +kernel⟩
def S__law_draw : DSp := fun ds M R _ => ∃ a n b m M0, ds = [.own a, .int n] ∧ M = mset M0 a m ∧ PurseOk b m ∧ b ≤ 1152921504606846976 ∧ 0 < n ∧ Sm 9000 n ∧ ∀ (d : Int) m', 0 ≤ d → d < n → PurseOk (b + 301) m' → R (.int d) (mset M0 a m')
theorem use_draw {a : Addr} {n b : Int} {m : MO} {M0 : Mem} {R : DR} {X : DX} (hp : PurseOk b m) (hb : b ≤ 1152921504606846976) (hn : 0 < n) (hs : Sm 9000 n) (k : ∀ (d : Int) m', 0 ≤ d → d < n → PurseOk (b + 301) m' → R (.int d) (mset M0 a m')) : S__law_draw [.own a, .int n] (mset M0 a m) R X := ⟨a, n, b, m, M0, rfl, rfl, hp, hb, hn, hs, k⟩
theorem ok__law_draw {P : Program} {w : World} {K : PySem.W.Frag} {mg : Str → Option Value} {base : Heap} {C f : Addr} {fd : FuncData} (T : Txt K mg) (F : FunD K "_law_draw" "_law_draw" (defArgs s__law_draw) (defBody s__law_draw) (defScope s__law_draw) [] [] f fd) (h__law_mixed : CallOk P w K mg base C 1 "_law_mixed" 2 S__law_mixed []) : FnOk P w K mg base CX0 2 f fd ["_law_purse_here", "_law_out_of"] (spD ⟨K, C⟩ 2 S__law_draw) := by
  have nd := sc__law_draw.nd
  refine fn_ok 5 2 F sc__law_draw (fun cdv A outer s H E hr =>
      (qss_cons (qs_if (qt_cmp c_gt (q_ixC 0 (qv 0)) qi)
        (qss_cons (qs_set (i := 2) nd (q_mod (q_ixC 0 (qv 0)) (qv 1)))
        (qss_cons (qs_asg (q_div (q_ixC 0 (qv 0)) (qv 1)) (qg_sub (qv 0) qi))
        (qss_one (qs_ret (qv 2)))))
        qss_nil)
      (qss_cons (qs_set (i := 3) nd qi)
      (qss_cons (qs_for (qi_rng1 T.b_range (qa_cons (q_add qi (q_div (q_bits (qv 1)) qi)) qa_nil)) (qg_name (i := 4) nd)
        (qss_cons (qs_asg (q_add (q_ixC 2 (qv 0)) qi) (qg_sub (qv 0) qi))
        (qss_one (qs_set (i := 3) nd (q_add (q_mul (qv 3) qi) (qc h__law_mixed hr (by decide) (qa_cons (q_ixC 1 (qv 0)) (qa_cons (q_ixC 2 (qv 0)) qa_nil))))))))
      (qss_one (qs_ret (q_mod (qv 3) (qv 1)))))))) ?_
  rintro ds _ R - ⟨a, n, b, m, M, rfl, rfl, ⟨g0, g1, g2, rfl, hg0, hg1⟩, hb, hn, hs, hR⟩
  have hbits := hs.bits
  walk_at "v"
  constructor
  · intro hpos
    refine ⟨hn, cd_ok hn hs (by omega), 0, rfl, ?_⟩
    exact fin_sw (hR _ _ (Int.emod_nonneg _ (by omega)) (Int.emod_lt_of_pos _ hn) ⟨_, _, _, rfl, hg0, by omega⟩)
  · intro hpos
    refine ⟨cdS (by omega) (by omega), by omega, by omega, fun i γ M' => ∃ num kk, γ = [some (.own a), some (.int n), none, some (.int num), kk] ∧ M' = mset M a (.lst [.int g0, .int g1, .int (g2 + i)]), ⟨0, none, rfl, ?_⟩, fun _ _ _ _ => trivial, ?_, ?_⟩
    · simp
    · rintro i d γ' M' ⟨num, kk, rfl, rfl⟩ hi
      obtain ⟨hi, rfl⟩ := (rngD_get _ _ _ _).mp hi
      walk_at "v"
      refine ⟨2, rfl, ?_⟩
      walk_at "v"
      refine ⟨mulR (by omega) (by omega), ?_⟩
      refine ⟨_, _, rfl, by omega, by omega, fun r => ?_⟩
      walk_at "v"
      refine ⟨_, _, rfl, ?_⟩
      have e : g2 + (i : Int) + 1 = g2 + ((i + 1 : Nat) : Int) := by omega
      rw [e]
    · rintro γ' M' ⟨num, kk, rfl, rfl⟩
      walk_at "v"
      rw [rngD_len]
      refine ⟨hn, fin_sw (hR _ _ (Int.emod_nonneg _ (by omega)) (Int.emod_lt_of_pos _ hn) ⟨_, _, _, rfl, by omega, by omega⟩)⟩
abbrev N__law_entry : List Str := ["_law_purse_here", "_law_line", "_law_low"]
theorem sc__law_entry : FnScope N__law_entry ["_law_purse_here"] (defScope s__law_entry) := ⟨rfl, rfl, rfl, by decide +kernel, rfl, by decide +kernel, by decide +kernel⟩
structure E96 (e : Pc) : Prop where
  o1 : 1 ≤ e.1.2.2
  o9 : e.1.2.2 ≤ 50
  t0 : -50 ≤ e.1.1
  t1 : e.1.1 ≤ 50
  p0 : -50 ≤ e.1.2.1
  p1 : e.1.2.1 ≤ 50
  l0 : -100 ≤ e.2.1
  lt : e.2.1 < e.2.2
  h1 : e.2.2 ≤ 201
def S__law_entry : DSp := fun ds M R _ => ∃ (a : Addr) (b : Int) (m : MO) (M0 : Mem), ds = [.own a] ∧ M = mset M0 a m ∧ PurseOk b m ∧ b ≤ 1000000000000 ∧ ∀ (e : Pc) m', E96 e → PurseOk (b + 2000) m' → R (pcD e) (mset M0 a m')
theorem ok__law_entry {P : Program} {w : World} {K : PySem.W.Frag} {mg : Str → Option Value} {base : Heap} {C f : Addr} {fd : FuncData} (T : Txt K mg) (F : FunD K "_law_entry" "_law_entry" (defArgs s__law_entry) (defBody s__law_entry) (defScope s__law_entry) [] [] f fd) (h_Line : LMk P w K mg base C 3) (h__law_draw : CallOk P w K mg base C 2 "_law_draw" 2 S__law_draw []) : FnOk P w K mg base CX0 5 f fd ["_law_purse_here"] (spD ⟨K, C⟩ 1 S__law_entry) := by
  have nd := sc__law_entry.nd
  refine fn_ok 3 1 F sc__law_entry (fun cdv A outer s H E hr =>
      (qss_cons (qs_set (i := 1) nd (q_line h_Line hr (by decide) (qa_cons (q_sub (qc h__law_draw hr (by decide) (qa_cons (qv 0) (qa_cons qi qa_nil))) qi) (qa_cons (q_sub (qc h__law_draw hr (by decide) (qa_cons (qv 0) (qa_cons qi qa_nil))) qi) (qa_cons (q_add qi (qc h__law_draw hr (by decide) (qa_cons (qv 0) (qa_cons qi qa_nil)))) qa_nil)))))
      (qss_cons (qs_set (i := 2) nd (q_sub (qc h__law_draw hr (by decide) (qa_cons (qv 0) (qa_cons qi qa_nil))) qi))
      (qss_one (qs_ret (q_tup (qa_cons (qv 1) (qa_cons (qv 2) (qa_cons (q_add (q_add (qv 2) qi) (qc h__law_draw hr (by decide) (qa_cons (qv 0) (qa_cons qi qa_nil)))) qa_nil))))))))) ?_
  rintro ds _ R - ⟨a, b, m, M, rfl, rfl, hm, hb, hR⟩
  walk_at "w"
  refine use_draw hm (by omega) (by omega) ((show Sm 40 101 by decide).mono (by decide)) fun d1 m1 a0 a1 hm1 => ?_
  walk_at "w"
  refine use_draw hm1 (by omega) (by omega) ((show Sm 40 101 by decide).mono (by decide)) fun d2 m2 b0 b1 hm2 => ?_
  walk_at "w"
  refine use_draw hm2 (by omega) (by omega) ((show Sm 40 50 by decide).mono (by decide)) fun d3 m3 c0 c1 hm3 => ?_
  walk_at "w"
  refine ⟨by omega, ?_⟩
  refine use_draw hm3 (by omega) (by omega) ((show Sm 40 201 by decide).mono (by decide)) fun d4 m4 e0 e1 hm4 => ?_
  walk_at "w"
  refine use_draw hm4 (by omega) (by omega) ((show Sm 40 100 by decide).mono (by decide)) fun d5 m5 f0 f1 hm5 => ?_
  walk_at "w"
  exact fin_sw (hR ((d1 - 50, d2 - 50, 1 + d3), d4 - 100, d4 - 100 + 1 + d5) m5 ⟨by show 1 ≤ 1 + d3; omega, by show 1 + d3 ≤ 50; omega, by show _ ≤ d1 - 50; omega, by show d1 - 50 ≤ _; omega, by show _ ≤ d2 - 50; omega, by show d2 - 50 ≤ _; omega, by show _ ≤ d4 - 100; omega, by show d4 - 100 < d4 - 100 + 1 + d5; omega, by show d4 - 100 + 1 + d5 ≤ _; omega⟩ (hm5.mono (by omega)))
abbrev N_is_name : List Str := ["value", "letter"]
theorem sc_is_name : FnScope N_is_name ["value"] (defScope s_is_name) := ⟨rfl, rfl, rfl, by decide +kernel, rfl, by decide +kernel, by decide +kernel⟩
def S_is_name : DSp := fun ds M R _ => ∃ s : Str, ds = [.str s] ∧ GoodN s ∧ R (.bl true) M
theorem ok_is_name {P : Program} {w : World} {K : PySem.W.Frag} {mg : Str → Option Value} {base : Heap} {C f : Addr} {fd : FuncData} (T : Txt K mg) (F : FunD K "is_name" "is_name" (defArgs s_is_name) (defBody s_is_name) (defScope s_is_name) [] [] f fd)  : FnOk P w K mg base CX0 1 f fd ["value"] (spD ⟨K, C⟩ 1 S_is_name) := by
  have nd := sc_is_name.nd
  refine fn_ok 2 1 F sc_is_name (fun cdv A outer s H E hr =>
      (qss_cons (qs_if (QW.qt (qw_or (qt_not (qt_val (q_isi .str (qv 0) rfl T.b_isinstance bb_isinstance rfl T.b_str bb_str))) (qw_or1 (qt_not (qt_chain c_le c_le qi (q_cb b_len rfl T.b_len bb_len (qa_cons (qv 0) qa_nil)) qi)))))
        (qss_one (qs_ret qb))
        qss_nil)
      (qss_one (qs_ret (q_cmp (c_eqNl hr) (q_lc (own := [("letter", 1)]) nd (qi_str (qv 0)) (blkOk_by (own := [("letter", 1)]) (N := N_is_name) (sc := defScope s_is_name) (by decide +kernel)) (fun _ _ _ _ _ => (qgw_name (i := 1) nd)) (fun _ _ _ _ _ => (qts_one (qt_cmp c_notInSg (qv 1) (qgs rfl T.c_LETTERS)))) (fun _ _ _ _ _ => (qv 1))) (q_lst qa_nil)))))) ?_
  rintro ds M R - ⟨s, rfl, ⟨g1, g2, g3⟩, hR⟩
  walk_at "w"
  refine ⟨Nat.le_trans g2 (by decide), fun _ => ⟨fun c => absurd (show (s.length : Int) ≤ 8 by omega) c, fun _ => ?_⟩, fun c => absurd (show 1 ≤ (s.length : Int) by omega) c⟩
  refine mf_str (fun _ => false) id s (fun F z => by walk_at "w"; exact z) (Nat.lt_of_le_of_lt g2 (by decide)) (fun _ _ h => by cases h) ?_ ?_
  · intro i d p acc P Q hd hpp hP hQ
    obtain ⟨c, hc, rfl⟩ := sgs_get.mp hd
    have hm : c ∈ ltrs.cps.toList := g3 c (List.mem_of_getElem? (by rw [Array.getElem?_toList]; exact hc))
    walk_at "w"
    refine ⟨c, _, rfl, rfl, ?_⟩
    exact ⟨fun z => absurd hm z, fun _ => hQ rfl⟩
  · have e : List.map id (List.filter (fun _ => false) (sgs s)) = [] := by simp
    rw [e]
    walk_at "w"
    exact fin_pure hR
abbrev N_check_line : List Str := ["value"]
theorem sc_check_line : FnScope N_check_line ["value"] (defScope s_check_line) := ⟨rfl, rfl, rfl, by decide +kernel, rfl, by decide +kernel, by decide +kernel⟩
def S_check_line : DSp := fun ds M R _ => ∃ x : Tr, ds = [trL x] ∧ R .non M
theorem ok_check_line {P : Program} {w : World} {K : PySem.W.Frag} {mg : Str → Option Value} {base : Heap} {C f : Addr} {fd : FuncData} (T : Txt K mg) (F : FunD K "check_line" "check_line" (defArgs s_check_line) (defBody s_check_line) (defScope s_check_line) [] [] f fd) (h_isL : IsiF K mg C) : FnOk P w K mg base CX0 1 f fd ["value"] (spD ⟨K, C⟩ 1 S_check_line) := by
  have nd := sc_check_line.nd
  refine fn_ok 1 1 F sc_check_line (fun cdv A outer s H E hr =>
      (qss_one (qs_if (qt_not (qt_val (q_isL h_isL (qv 0) rfl T.b_isinstance bb_isinstance)))
        (qss_one qs_never)
        qss_nil))) ?_
  rintro ds M R - ⟨x, rfl, hR⟩
  simp only [trL]
  walk_at "w"
  exact fin_pure hR
abbrev N_check_range : List Str := ["low", "high"]
theorem sc_check_range : FnScope N_check_range ["low", "high"] (defScope s_check_range) := ⟨rfl, rfl, rfl, by decide +kernel, rfl, by decide +kernel, by decide +kernel⟩
def S_check_range : DSp := fun ds M R _ => ∃ l h, ds = [.int l, .int h] ∧ l < h ∧ R .non M
theorem ok_check_range {P : Program} {w : World} {K : PySem.W.Frag} {mg : Str → Option Value} {base : Heap} {C f : Addr} {fd : FuncData} (T : Txt K mg) (F : FunD K "check_range" "check_range" (defArgs s_check_range) (defBody s_check_range) (defScope s_check_range) [] [] f fd) (h_is_whole : CallOk P w K mg base C 1 "is_whole" 1 S_is_whole []) : FnOk P w K mg base CX0 2 f fd ["low", "high"] (spD ⟨K, C⟩ 2 S_check_range) := by
  have nd := sc_check_range.nd
  refine fn_ok 2 2 F sc_check_range (fun cdv A outer s H E hr =>
      (qss_one (qs_if (QW.qt (qw_or (qt_not (qt_val (qc h_is_whole hr (by decide) (qa_cons (qv 0) qa_nil)))) (qw_or (qt_not (qt_val (qc h_is_whole hr (by decide) (qa_cons (qv 1) qa_nil)))) (qw_or1 (qt_cmp c_ge (qv 0) (qv 1))))))
        (qss_one qs_never)
        qss_nil))) ?_
  rintro ds M R - ⟨l, h, rfl, hl, hR⟩
  walk_at "v"
  refine ⟨_, rfl, rfl, ?_⟩
  walk_at "v"
  refine ⟨_, rfl, rfl, ?_⟩
  walk_at "v"
  exact ⟨fun z => by omega, fun _ => fin_pure hR⟩
abbrev N_Library_set_entry : List Str := ["self", "name", "found", "kept", "one"]
theorem sc_Library_set_entry : FnScope N_Library_set_entry ["self", "name", "found"] (defScope s_Library_set_entry) := ⟨rfl, rfl, rfl, by decide +kernel, rfl, by decide +kernel, by decide +kernel⟩
def S_Library_set_entry : DSp := fun ds M R _ => ∃ (x b : Addr) (kv : Kpt) (n : Str) (fo : Option Pc), ds = [.own x, .str n, oldD fo] ∧ M x = some (lbO kv b) ∧ KOk kv ∧ kv.length < 63 ∧ ∀ kv', SetTo kv n fo kv' → R .non (mset M x (lbO kv' b))
theorem ok_Library_set_entry {P : Program} {w : World} {K : PySem.W.Frag} {mg : Str → Option Value} {base : Heap} {C f : Addr} {fd : FuncData} (T : Txt K mg) (F : FunD K "set_entry" "Library.set_entry" (defArgs s_Library_set_entry) (defBody s_Library_set_entry) (defScope s_Library_set_entry) [] [] f fd) (oc_Library : OCls K "Library") : FnOk P w K mg base CX0 1 f fd ["self", "name", "found"] (spD ⟨K, C⟩ 3 S_Library_set_entry) := by
  have nd := sc_Library_set_entry.nd
  refine fn_ok 5 3 F sc_Library_set_entry (fun cdv A outer s H E hr =>
      (qss_cons (qs_set (i := 3) nd (q_ct b_dictO rfl T.b_dict bb_dict (qa_cons (q_fldO oc_Library 0 (by decide +kernel) (qv 0)) qa_nil)))
      (qss_cons (qs_dput hr (qv 3) (qv 1) (qv 2))
      (qss_one (qs_fldO oc_Library 0 (by decide +kernel) (qv 0) (q_dc (own := [("one", 4)]) nd (qi_list (q_cb b_sortD rfl T.b_sorted bb_sorted (qa_cons (qv 3) qa_nil))) (blkOk_by (own := [("one", 4)]) (N := N_Library_set_entry) (sc := defScope s_Library_set_entry) (by decide +kernel)) (fun _ _ _ _ _ => (qgw_name (i := 4) nd)) (fun _ _ _ _ _ => (qts_one (qt_notN (q_dget hr (qv 3) (qv 4))))) (fun _ _ _ _ _ => (qv 4)) (fun _ _ _ _ _ => (q_dget hr (qv 3) (qv 4))))))))) ?_
  rintro ds M R - ⟨x, b, kv, n, fo, rfl, hx, ok, hl, hR⟩
  walk_at "w"
  rw [hx]
  unfold lbO
  walk_at "w"
  refine ⟨pure_kDs kv, fun p hp => ?_⟩
  have ne : p ≠ x := fun e => by rw [e, hx] at hp; cases hp
  obtain ⟨ss, ess, nd, sl, sm⟩ := put_names kv n
  have l0 := kKs_len kv
  have dv : ∀ m : Str, m ∈ ss → dVal (putKs (kKs kv) (.inr n)) (putDs (kKs kv) (kDs kv) (.inr n) (oldD fo)) (.inr m) = some (oldD (newE kv n fo m)) := fun m hm => by
    rw [dVal_putD l0]
    unfold newE
    by_cases e : m = n
    · rw [if_pos e, if_pos (by rw [e])]
    · rw [if_neg e, if_neg (fun z => e (by injection z)), dVal_kept]
      have q := lkp_mem.mpr (((sm m).mp hm).resolve_left e)
      cases z : lkp kv m with
      | none => rw [z] at q; cases q
      | some y => rfl
  refine ⟨pure_oldD fo, ?_, ?_⟩
  · rw [← l0]
    unfold kKs
    rw [List.length_map]
    exact Nat.lt_trans hl (by decide)
  generalize hK : putKs (kKs kv) (.inr n) = K at *
  generalize hD : putDs (kKs kv) (kDs kv) (.inr n) (oldD fo) = Ds at *
  rw [vdc_eq]
  walk_at "w"
  rw [f_sortD dctI_same (show strKs K = some ss by rw [ess]; exact strKs_map ss)]
  refine ⟨by omega, fun ys hp' hs => ?_⟩
  have st := newK_set (fo := fo) (nd ok.nd) sm sl hp' hs
  obtain ⟨q1, q2⟩ := newK_dct kv n fo (fun d => match d with | .str m => (newE kv n fo m).isSome | _ => false) (fun d => match d with | .str m => .inr m | _ => .inl 0) (fun d => match d with | .str m => oldD (newE kv n fo m) | _ => .non) (fun _ => rfl) (fun _ => rfl) (fun _ => rfl) ys
  refine vdc_list (fun d => match d with | .str m => (newE kv n fo m).isSome | _ => false) (fun d => match d with | .str m => .inr m | _ => .inl 0) (fun d => match d with | .str m => oldD (newE kv n fo m) | _ => .non) (ys.map D.str) (fun F z => z) ?_ ?_ ?_ ?_ ?_
  · rw [List.length_map, hp'.length_eq]
    exact Nat.lt_of_le_of_lt (show ss.length ≤ 63 by omega) (by decide)
  · rw [List.map_map]
    have : ((fun d => match d with | D.str m => (Sum.inr m : Key) | _ => Sum.inl 0) ∘ D.str) = fun m => (Sum.inr m : Key) := rfl
    rw [this]
    exact (List.pairwise_map.mpr ((hp'.nodup_iff.mpr (nd ok.nd)).imp fun h z => h (by injection z)))
  · intro d hd _
    obtain ⟨m, _, rfl⟩ := List.mem_map.mp hd
    exact pure_oldD _
  · intro d q ks es P hd hq h1 h2
    obtain ⟨m, hm, rfl⟩ := List.mem_map.mp hd
    have hm' : m ∈ ss := hp'.mem_iff.mp hm
    have nq : p ≠ q := fun e => by rw [← e, mset_same] at hq; cases hq
    have di : dctI (mset (mset M p (.dct K Ds)) q (.dct ks es)) (.own p) = some (K, Ds) := dctI_own (by rw [mset_ne nq, mset_same])
    walk_at "w"
    rw [di]
    walk_at "w"
    rw [dv m hm']
    walk_at "w"
    cases z : newE kv n fo m with
    | none => exact ⟨fun c => (by cases c), fun _ => ⟨_, rfl, h2 (by simp [z])⟩⟩
    | some y =>
      have h1' := h1 (by simp [z])
      dsimp only at h1'
      rw [z] at h1'
      exact ⟨fun _ => ⟨_, rfl, pure_oldD _, _, rfl, h1'⟩, fun c => (by cases c)⟩
  · rw [q1, q2]
    rw [mset_ne (Ne.symm ne), hx]
    unfold lbO
    walk_at "w"
    refine ⟨pure_kDs _, ?_⟩
    have := hR _ st
    unfold lbO at this
    refine fin_to (mset M x _) ?_ dom_set this
    rw [mset_comm ne]
    exact Sub.set (by rw [mset_ne ne]; exact hp)
abbrev N_Library_step : List Str := ["self", "told", "found", "name"]
theorem sc_Library_step : FnScope N_Library_step ["self", "told", "found"] (defScope s_Library_step) := ⟨rfl, rfl, rfl, by decide +kernel, rfl, by decide +kernel, by decide +kernel⟩
def S_Library_step : DSp := fun ds M R _ => ∃ (x b : Addr) (kv : Kpt) (st ts : List D) (n : Str) (fo : Option Pc), ds = [.own x, .tup ts, oldD fo] ∧ M x = some (lbO kv b) ∧ M b = some (.lst st) ∧ KOk kv ∧ kv.length < 63 ∧ st.length < sizeLine ∧ nthD ts 1 = some (.str n) ∧ pureL ts = true ∧ ∀ kv', SetTo kv n fo kv' → R .non (libM M x b kv' (st ++ [stD ts (lkp kv n)]))
theorem ok_Library_step {P : Program} {w : World} {K : PySem.W.Frag} {mg : Str → Option Value} {base : Heap} {C f : Addr} {fd : FuncData} (T : Txt K mg) (F : FunD K "step" "Library.step" (defArgs s_Library_step) (defBody s_Library_step) (defScope s_Library_step) [] [] f fd) (oc_Library : OCls K "Library") (hmo_Library_set_entry_2 : MOkO P w K mg base C 1 "Library" "set_entry" 3 S_Library_set_entry []) : FnOk P w K mg base CX0 2 f fd ["self", "told", "found"] (spD ⟨K, C⟩ 3 S_Library_step) := by
  have nd := sc_Library_step.nd
  refine fn_ok 4 3 F sc_Library_step (fun cdv A outer s H E hr =>
      (qss_cons (qs_set (i := 3) nd (q_ixC 1 (qv 1)))
      (qss_cons (qs_expr (q_append (q_fldO oc_Library 1 (by decide +kernel) (qv 0)) (q_tup (qa_cons (qv 1) (qa_cons (q_dget1 hr (q_fldO oc_Library 0 (by decide +kernel) (qv 0)) (qv 3)) qa_nil)))))
      (qss_one (qs_expr (q_methO hmo_Library_set_entry_2 hr (by decide) (qv 0) (qa_cons (qv 3) (qa_cons (qv 2) qa_nil)))))))) ?_
  rintro ds M R - ⟨x, b, kv, st, ts, n, fo, rfl, hx, hb, ok, hl, hs, hn, pu, hR⟩
  have bx := lb_ne hx hb
  walk_at "w"
  rw [hn]
  walk_at "w"
  rw [hx]
  unfold lbO
  walk_at "w"
  rw [dVal_kept, hb]
  dsimp only
  have eo : (Option.map pcD (lkp kv n)).getD D.non = oldD (lkp kv n) := by cases lkp kv n <;> rfl
  rw [eo, mset_ne (Ne.symm bx), hx]
  unfold lbO
  walk_at "w"
  refine ⟨rfl, lstAt_of hb, rfl, ?_, hs, ?_⟩
  · rw [pu, pure_oldD]; rfl
  refine ⟨x, b, kv, n, fo, rfl, by rw [mset_ne (Ne.symm bx)]; exact hx, ok, hl, fun kv' h => ?_⟩
  walk_at "w"
  exact fin_lib (hR kv' h)
abbrev N_Library_put : List Str := ["self", "name", "line", "low", "high"]
theorem sc_Library_put : FnScope N_Library_put ["self", "name", "line", "low", "high"] (defScope s_Library_put) := ⟨rfl, rfl, rfl, by decide +kernel, rfl, by decide +kernel, by decide +kernel⟩
def S_Library_put : DSp := fun ds M R _ => ∃ (x b : Addr) (kv : Kpt) (st : List D) (n : Str) (t : Tr) (l h : Int), ds = [.own x, .str n, trL t, .int l, .int h] ∧ M x = some (lbO kv b) ∧ M b = some (.lst st) ∧ KOk kv ∧ kv.length < 63 ∧ st.length < sizeLine ∧ GoodN n ∧ lkp kv n = none ∧ l < h ∧
  ∀ kv', SetTo kv n (some (t, l, h)) kv' → R .non (libM M x b kv' (st ++ [stD [.str "put", .str n] none]))
theorem ok_Library_put {P : Program} {w : World} {K : PySem.W.Frag} {mg : Str → Option Value} {base : Heap} {C f : Addr} {fd : FuncData} (T : Txt K mg) (F : FunD K "put" "Library.put" (defArgs s_Library_put) (defBody s_Library_put) (defScope s_Library_put) [] [] f fd) (h_is_name : CallOk P w K mg base C 1 "is_name" 1 S_is_name []) (oc_Library : OCls K "Library") (h_check_line : CallOk P w K mg base C 1 "check_line" 1 S_check_line []) (h_check_range : CallOk P w K mg base C 2 "check_range" 2 S_check_range []) (hmo_Library_step_2 : MOkO P w K mg base C 2 "Library" "step" 3 S_Library_step []) : FnOk P w K mg base CX0 3 f fd ["self", "name", "line", "low", "high"] (spD ⟨K, C⟩ 5 S_Library_put) := by
  have nd := sc_Library_put.nd
  refine fn_ok 5 5 F sc_Library_put (fun cdv A outer s H E hr =>
      (qss_cons (qs_if (qt_not (qt_val (qc h_is_name hr (by decide) (qa_cons (qv 1) qa_nil))))
        (qss_one qs_never)
        qss_nil)
      (qss_cons (qs_if (qt_cmp (c_inDct hr) (qv 1) (q_fldO oc_Library 0 (by decide +kernel) (qv 0)))
        (qss_one qs_never)
        qss_nil)
      (qss_cons (qs_expr (qc h_check_line hr (by decide) (qa_cons (qv 2) qa_nil)))
      (qss_cons (qs_expr (qc h_check_range hr (by decide) (qa_cons (qv 3) (qa_cons (qv 4) qa_nil))))
      (qss_one (qs_expr (q_methO hmo_Library_step_2 hr (by decide) (qv 0) (qa_cons (q_tup (qa_cons qs (qa_cons (qv 1) qa_nil))) (qa_cons (q_tup (qa_cons (qv 2) (qa_cons (qv 3) (qa_cons (qv 4) qa_nil)))) qa_nil)))))))))) ?_
  rintro ds M R - ⟨x, b, kv, st, n, t, l, h, rfl, hx, hb, ok, hl, hs, gn, hn, hlh, hR⟩
  walk_at "w"
  refine ⟨n, rfl, gn, ?_⟩
  walk_at "w"
  rw [hx]
  unfold lbO
  walk_at "w"
  rw [dVal_kept, hn]
  refine ⟨fun c => (by cases c), fun _ => ?_⟩
  refine ⟨t, rfl, ?_⟩
  walk_at "w"
  refine ⟨l, h, rfl, hlh, ?_⟩
  walk_at "w"
  rw [hx]
  unfold lbO
  walk_at "w"
  refine ⟨x, b, kv, st, _, n, some (t, l, h), rfl, hx, hb, ok, hl, hs, rfl, rfl, fun kv' hk => ?_⟩
  walk_at "w"
  rw [hn]
  exact fin_lib (hR kv' hk)
abbrev N__law_put : List Str := ["_law_library", "_law_kept", "_law_name", "_law_entry_here", "_law_found"]
theorem sc__law_put : FnScope N__law_put ["_law_library", "_law_kept", "_law_name", "_law_entry_here"] (defScope s__law_put) := ⟨rfl, rfl, rfl, by decide +kernel, rfl, by decide +kernel, by decide +kernel⟩
def Out96 (M : Mem) (x b : Addr) (kv : Kpt) (st : List D) (told : List D) (n : Str) (o : Option Pc) (R : DR) : Prop :=
  ∀ kv', SetTo kv n o kv' → ∀ k ks es, libM M x b kv' (st ++ [stD told (lkp kv n)]) k = none → KdOk ks es (lkp kv') → pureL es = true → R (.tup [.own k, .tup told]) (mset (libM M x b kv' (st ++ [stD told (lkp kv n)])) k (.dct ks es))
def S__law_put : DSp := fun ds M R _ => ∃ (x b k : Addr) (kv : Kpt) (st : List D) (ks : List Key) (es : List D) (n : Str) (e : Pc), ds = [.own x, .own k, .str n, pcD e] ∧ M x = some (lbO kv b) ∧ M b = some (.lst st) ∧ M k = some (.dct ks es) ∧ KdOk ks es (lkp kv) ∧ pureL es = true ∧ KOk kv ∧ kv.length < 63 ∧ st.length < sizeLine ∧ GoodN n ∧ lkp kv n = none ∧ e.2.1 < e.2.2 ∧ Out96 M x b kv st [.str "put", .str n] n (some e) R
theorem kd_len {ks : List Key} {es : List D} {kv : Kpt} (kd : KdOk ks es (lkp kv)) : es.length ≤ kv.length := by
  obtain ⟨ms, rfl, nd, mm⟩ := kd.nm
  have h := kd.len
  rw [List.length_map] at h
  have := nodup_le (m := kv.map (·.1)) nd fun n hn => lkp_mem.mp ((mm n).mp hn)
  rw [List.length_map] at this
  omega
theorem mset_at {M : Mem} {a : Addr} {m : MO} (h : M a = some m) : mset M a m = M := by
  funext c
  by_cases e : c = a
  · rw [e, mset_same, h]
  · rw [mset_ne e]
theorem out_dom {M : Mem} {x b k : Addr} {kw : Kpt} {su : List D} {m : MO} : ∀ c, (M c).isSome = true → (mset (libM M x b kw su) k m c).isSome = true := fun c h => by
  by_cases e : c = k
  · rw [e, mset_same]; rfl
  · rw [mset_ne e]; exact libM_dom0 c h
theorem ok__law_put {P : Program} {w : World} {K : PySem.W.Frag} {mg : Str → Option Value} {base : Heap} {C f : Addr} {fd : FuncData} (T : Txt K mg) (F : FunD K "_law_put" "_law_put" (defArgs s__law_put) (defBody s__law_put) (defScope s__law_put) [] [] f fd) (hmo_Library_put_4 : MOkO P w K mg base C 3 "Library" "put" 5 S_Library_put []) : FnOk P w K mg base CX0 4 f fd ["_law_library", "_law_kept", "_law_name", "_law_entry_here"] (spD ⟨K, C⟩ 4 S__law_put) := by
  have nd := sc__law_put.nd
  refine fn_ok 5 4 F sc__law_put (fun cdv A outer s H E hr =>
      (qss_cons (qs_expr (q_methO hmo_Library_put_4 hr (by decide) (qv 0) (qa_cons (qv 2) (qa_cons (q_ixC 0 (qv 3)) (qa_cons (q_ixC 1 (qv 3)) (qa_cons (q_ixC 2 (qv 3)) qa_nil))))))
      (qss_cons (qs_set (i := 4) nd (q_ct b_dictO rfl T.b_dict bb_dict (qa_cons (qv 1) qa_nil)))
      (qss_cons (qs_dput hr (qv 4) (qv 2) (qv 3))
      (qss_one (qs_ret (q_tup (qa_cons (qv 4) (qa_cons (q_tup (qa_cons qs (qa_cons (qv 2) qa_nil))) qa_nil))))))))) ?_
  rintro ds M R - ⟨x, b, k, kv, st, ks, es, n, e, rfl, hx, hb, hk, kd, pe, ok, kl, sl, gn, hn, lt, hR⟩
  have kx : k ≠ x := fun z => by rw [z, hx] at hk; unfold lbO at hk; cases hk
  have kb : k ≠ b := fun z => by rw [z, hb] at hk; cases hk
  simp only [pcD]
  walk_at "w"
  rw [hx]
  unfold lbO
  walk_at "w"
  refine ⟨x, b, kv, st, n, e.1, e.2.1, e.2.2, rfl, hx, hb, ok, kl, sl, gn, hn, lt, fun kv' s => ?_⟩
  have hk1 : libM M x b kv' (st ++ [stD [.str "put", .str n] none]) k = some (.dct ks es) := by rw [libM_o kx kb]; exact hk
  have hR := hR kv' s
  rw [hn] at hR
  dsimp only
  rw [f_dictO (dctI_own hk1)]
  refine ⟨pe, fun k2 hk2 => ?_⟩
  walk_at "w"
  have e2 : (D.tup [trL e.1, .int e.2.1, .int e.2.2]) = pcD e := rfl
  rw [e2]
  refine ⟨rfl, ?_, ?_⟩
  · have h1 := kd_len kd
    have h2 : (63 : Nat) < sizeLine := by decide
    omega
  exact fin_own2 _ Sub.refl out_dom (by rw [mset_same]; rfl) rfl (hR k2 _ _ hk2 (kd_congr kd.put (set_upd s)) (pureL_putDs rfl pe))
abbrev N_Library_check_kept : List Str := ["self", "name"]
theorem sc_Library_check_kept : FnScope N_Library_check_kept ["self", "name"] (defScope s_Library_check_kept) := ⟨rfl, rfl, rfl, by decide +kernel, rfl, by decide +kernel, by decide +kernel⟩
def S_Library_check_kept : DSp := fun ds M R _ => ∃ (x b : Addr) (kv : Kpt) (n : Str), ds = [.own x, .str n] ∧ M x = some (lbO kv b) ∧ (lkp kv n).isSome = true ∧ R .non M
theorem ok_Library_check_kept {P : Program} {w : World} {K : PySem.W.Frag} {mg : Str → Option Value} {base : Heap} {C f : Addr} {fd : FuncData} (T : Txt K mg) (F : FunD K "check_kept" "Library.check_kept" (defArgs s_Library_check_kept) (defBody s_Library_check_kept) (defScope s_Library_check_kept) [] [] f fd) (oc_Library : OCls K "Library") (h_isL : IsiF K mg C) : FnOk P w K mg base CX0 1 f fd ["self", "name"] (spD ⟨K, C⟩ 2 S_Library_check_kept) := by
  have nd := sc_Library_check_kept.nd
  refine fn_ok 2 2 F sc_Library_check_kept (fun cdv A outer s H E hr =>
      (qss_one (qs_if (QW.qt (qw_or (qt_not (qt_val (q_isiL .str h_isL (qv 1) rfl T.b_isinstance bb_isinstance rfl T.b_str bb_str))) (qw_or1 (qt_cmp (c_notInDct hr) (qv 1) (q_fldO oc_Library 0 (by decide +kernel) (qv 0))))))
        (qss_one qs_never)
        qss_nil))) ?_
  rintro ds M R - ⟨x, b, kv, n, rfl, hx, hk, hR⟩
  walk_at "w"
  rw [hx]
  unfold lbO
  walk_at "w"
  rw [dVal_kept, Option.isSome_map, hk]
  walk_at "w"
  exact fin_pure hR
abbrev N_Library_widen : List Str := ["self", "name", "low", "high", "line", "first", "last"]
theorem sc_Library_widen : FnScope N_Library_widen ["self", "name", "low", "high"] (defScope s_Library_widen) := ⟨rfl, rfl, rfl, by decide +kernel, rfl, by decide +kernel, by decide +kernel⟩
def S_Library_widen : DSp := fun ds M R _ => ∃ (x b : Addr) (kv : Kpt) (st : List D) (n : Str) (l h : Int) (e : Pc), ds = [.own x, .str n, .int l, .int h] ∧ M x = some (lbO kv b) ∧ M b = some (.lst st) ∧ KOk kv ∧ kv.length < 63 ∧ st.length < sizeLine ∧ lkp kv n = some e ∧ l < h ∧
  ∀ kv', SetTo kv n (some (e.1, min e.2.1 l, max e.2.2 h)) kv' → R .non (libM M x b kv' (st ++ [stD [.str "widen", .str n, .int l, .int h] (some e)]))
theorem ok_Library_widen {P : Program} {w : World} {K : PySem.W.Frag} {mg : Str → Option Value} {base : Heap} {C f : Addr} {fd : FuncData} (T : Txt K mg) (F : FunD K "widen" "Library.widen" (defArgs s_Library_widen) (defBody s_Library_widen) (defScope s_Library_widen) [] [] f fd) (hmo_Library_check_kept_1 : MOkO P w K mg base C 1 "Library" "check_kept" 2 S_Library_check_kept []) (h_check_range : CallOk P w K mg base C 2 "check_range" 2 S_check_range []) (oc_Library : OCls K "Library") (hmo_Library_step_2 : MOkO P w K mg base C 2 "Library" "step" 3 S_Library_step []) : FnOk P w K mg base CX0 3 f fd ["self", "name", "low", "high"] (spD ⟨K, C⟩ 4 S_Library_widen) := by
  have nd := sc_Library_widen.nd
  refine fn_ok 7 4 F sc_Library_widen (fun cdv A outer s H E hr =>
      (qss_cons (qs_expr (q_methO hmo_Library_check_kept_1 hr (by decide) (qv 0) (qa_cons (qv 1) qa_nil)))
      (qss_cons (qs_expr (qc h_check_range hr (by decide) (qa_cons (qv 2) (qa_cons (qv 3) qa_nil))))
      (qss_cons (qs_asg (q_dget hr (q_fldO oc_Library 0 (by decide +kernel) (qv 0)) (qv 1)) (qg_tup (n := 3) (qgs_cons (qg_name (i := 4) nd) (qgs_cons (qg_name (i := 5) nd) (qgs_cons (qg_name (i := 6) nd) qgs_nil)))))
      (qss_one (qs_expr (q_methO hmo_Library_step_2 hr (by decide) (qv 0) (qa_cons (q_tup (qa_cons qs (qa_cons (qv 1) (qa_cons (qv 2) (qa_cons (qv 3) qa_nil))))) (qa_cons (q_tup (qa_cons (qv 4) (qa_cons (q_cb b_min2 rfl T.b_min bb_min (qa_cons (qv 5) (qa_cons (qv 2) qa_nil))) (qa_cons (q_cb b_max2 rfl T.b_max bb_max (qa_cons (qv 6) (qa_cons (qv 3) qa_nil))) qa_nil)))) qa_nil))))))))) ?_
  rintro ds M R - ⟨x, b, kv, st, n, l, h, e, rfl, hx, hb, ok, hl, hs, hn, hlh, hR⟩
  walk_at "w"
  rw [hx]
  unfold lbO
  walk_at "w"
  refine ⟨x, b, kv, n, rfl, hx, by rw [hn]; rfl, ?_⟩
  walk_at "w"
  refine ⟨l, h, rfl, hlh, ?_⟩
  walk_at "w"
  rw [hx]
  unfold lbO
  walk_at "w"
  rw [dVal_kept, hn]
  simp only [Option.map_some, pcD]
  walk_at "w"
  have e1 : (if l < e.2.1 then l else e.2.1) = min e.2.1 l := by split <;> omega
  have e2 : (if h > e.2.2 then h else e.2.2) = max e.2.2 h := by split <;> omega
  rw [e1, e2]
  refine ⟨x, b, kv, st, _, n, some (e.1, min e.2.1 l, max e.2.2 h), rfl, hx, hb, ok, hl, hs, rfl, rfl, fun kv' hk => ?_⟩
  walk_at "w"
  rw [hn]
  exact fin_lib (hR kv' hk)
abbrev N_Library_change : List Str := ["self", "name", "line", "old", "low", "high"]
theorem sc_Library_change : FnScope N_Library_change ["self", "name", "line"] (defScope s_Library_change) := ⟨rfl, rfl, rfl, by decide +kernel, rfl, by decide +kernel, by decide +kernel⟩
def S_Library_change : DSp := fun ds M R _ => ∃ (x b : Addr) (kv : Kpt) (st : List D) (n : Str) (t : Tr) (e : Pc), ds = [.own x, .str n, trL t] ∧ M x = some (lbO kv b) ∧ M b = some (.lst st) ∧ KOk kv ∧ kv.length < 63 ∧ st.length < sizeLine ∧ lkp kv n = some e ∧
  ∀ kv', SetTo kv n (some (t, e.2.1, e.2.2)) kv' → R .non (libM M x b kv' (st ++ [stD [.str "change", .str n] (some e)]))
theorem ok_Library_change {P : Program} {w : World} {K : PySem.W.Frag} {mg : Str → Option Value} {base : Heap} {C f : Addr} {fd : FuncData} (T : Txt K mg) (F : FunD K "change" "Library.change" (defArgs s_Library_change) (defBody s_Library_change) (defScope s_Library_change) [] [] f fd) (hmo_Library_check_kept_1 : MOkO P w K mg base C 1 "Library" "check_kept" 2 S_Library_check_kept []) (h_check_line : CallOk P w K mg base C 1 "check_line" 1 S_check_line []) (oc_Library : OCls K "Library") (hmo_Library_step_2 : MOkO P w K mg base C 2 "Library" "step" 3 S_Library_step []) : FnOk P w K mg base CX0 3 f fd ["self", "name", "line"] (spD ⟨K, C⟩ 3 S_Library_change) := by
  have nd := sc_Library_change.nd
  refine fn_ok 6 3 F sc_Library_change (fun cdv A outer s H E hr =>
      (qss_cons (qs_expr (q_methO hmo_Library_check_kept_1 hr (by decide) (qv 0) (qa_cons (qv 1) qa_nil)))
      (qss_cons (qs_expr (qc h_check_line hr (by decide) (qa_cons (qv 2) qa_nil)))
      (qss_cons (qs_asg (q_dget hr (q_fldO oc_Library 0 (by decide +kernel) (qv 0)) (qv 1)) (qg_tup (n := 3) (qgs_cons (qg_name (i := 3) nd) (qgs_cons (qg_name (i := 4) nd) (qgs_cons (qg_name (i := 5) nd) qgs_nil)))))
      (qss_one (qs_expr (q_methO hmo_Library_step_2 hr (by decide) (qv 0) (qa_cons (q_tup (qa_cons qs (qa_cons (qv 1) qa_nil))) (qa_cons (q_tup (qa_cons (qv 2) (qa_cons (qv 4) (qa_cons (qv 5) qa_nil)))) qa_nil))))))))) ?_
  rintro ds M R - ⟨x, b, kv, st, n, t, e, rfl, hx, hb, ok, hl, hs, hn, hR⟩
  walk_at "w"
  rw [hx]
  unfold lbO
  walk_at "w"
  refine ⟨x, b, kv, n, rfl, hx, by rw [hn]; rfl, ?_⟩
  walk_at "w"
  refine ⟨t, rfl, ?_⟩
  walk_at "w"
  rw [hx]
  unfold lbO
  walk_at "w"
  rw [dVal_kept, hn]
  simp only [Option.map_some, pcD]
  walk_at "w"
  refine ⟨x, b, kv, st, _, n, some (t, e.2.1, e.2.2), rfl, hx, hb, ok, hl, hs, rfl, rfl, fun kv' hk => ?_⟩
  walk_at "w"
  rw [hn]
  exact fin_lib (hR kv' hk)
abbrev N_Library_drop : List Str := ["self", "name"]
theorem sc_Library_drop : FnScope N_Library_drop ["self", "name"] (defScope s_Library_drop) := ⟨rfl, rfl, rfl, by decide +kernel, rfl, by decide +kernel, by decide +kernel⟩
def S_Library_drop : DSp := fun ds M R _ => ∃ (x b : Addr) (kv : Kpt) (st : List D) (n : Str), ds = [.own x, .str n] ∧ M x = some (lbO kv b) ∧ M b = some (.lst st) ∧ KOk kv ∧ kv.length < 63 ∧ st.length < sizeLine ∧ (lkp kv n).isSome = true ∧
  ∀ kv', SetTo kv n none kv' → R .non (libM M x b kv' (st ++ [stD [.str "drop", .str n] (lkp kv n)]))
theorem ok_Library_drop {P : Program} {w : World} {K : PySem.W.Frag} {mg : Str → Option Value} {base : Heap} {C f : Addr} {fd : FuncData} (T : Txt K mg) (F : FunD K "drop" "Library.drop" (defArgs s_Library_drop) (defBody s_Library_drop) (defScope s_Library_drop) [] [] f fd) (hmo_Library_check_kept_1 : MOkO P w K mg base C 1 "Library" "check_kept" 2 S_Library_check_kept []) (hmo_Library_step_2 : MOkO P w K mg base C 2 "Library" "step" 3 S_Library_step []) : FnOk P w K mg base CX0 3 f fd ["self", "name"] (spD ⟨K, C⟩ 2 S_Library_drop) := by
  have nd := sc_Library_drop.nd
  refine fn_ok 2 2 F sc_Library_drop (fun cdv A outer s H E hr =>
      (qss_cons (qs_expr (q_methO hmo_Library_check_kept_1 hr (by decide) (qv 0) (qa_cons (qv 1) qa_nil)))
      (qss_one (qs_expr (q_methO hmo_Library_step_2 hr (by decide) (qv 0) (qa_cons (q_tup (qa_cons qs (qa_cons (qv 1) qa_nil))) (qa_cons qn qa_nil))))))) ?_
  rintro ds M R - ⟨x, b, kv, st, n, rfl, hx, hb, ok, hl, hs, hn, hR⟩
  walk_at "w"
  rw [hx]
  unfold lbO
  walk_at "w"
  refine ⟨x, b, kv, n, rfl, hx, hn, ?_⟩
  walk_at "w"
  rw [hx]
  unfold lbO
  walk_at "w"
  refine ⟨x, b, kv, st, _, n, none, rfl, hx, hb, ok, hl, hs, rfl, rfl, fun kv' hk => ?_⟩
  walk_at "w"
  exact fin_lib (hR kv' hk)
abbrev N__law_step : List Str := ["_law_purse_here", "_law_library", "_law_kept", "_law_names_here", "_law_name", "_law_line", "_law_low", "_law_high", "_law_found", "_law_way"]
theorem sc__law_step : FnScope N__law_step ["_law_purse_here", "_law_library", "_law_kept", "_law_names_here"] (defScope s__law_step) := ⟨rfl, rfl, rfl, by decide +kernel, rfl, by decide +kernel, by decide +kernel⟩
structure Tl96 (told : List D) (n : Str) : Prop where
  at_ : nthD told 1 = some (.str n)
  pu : pureL told = true
  cm : cmpL 62 told = true
theorem ok_nm {n : Str} (g : GoodN n) : PyData.strOk n = true := by
  have := cmp_names 1 (ns := [n]) (fun m hm => by simp at hm; subst hm; exact g)
  simpa [cmpL, cmpD] using this
theorem tl_str {s n : Str} (g : GoodN n) (hs : PyData.strOk s = true) : Tl96 [.str s, .str n] n := ⟨rfl, rfl, by simp [cmpL, cmpD, ok_nm g, hs]⟩
theorem tl_wid {n : Str} (g : GoodN n) (l h : Int) : Tl96 [.str "widen", .str n, .int l, .int h] n := ⟨rfl, rfl, by simp [cmpL, cmpD, ok_nm g]; decide +kernel⟩
theorem E96.wid {e : Pc} {l h : Int} (a : E96 e) (l0 : -100 ≤ l) (h1 : h ≤ 201) : E96 (e.1, min l e.2.1, max h e.2.2) :=
  ⟨a.o1, a.o9, a.t0, a.t1, a.p0, a.p1, by have := a.l0; show -100 ≤ min l e.2.1; omega, by have := a.lt; show min l e.2.1 < max h e.2.2; omega, by have := a.h1; show max h e.2.2 ≤ 201; omega⟩
theorem E96.chg {e f : Pc} (a : E96 e) (c : E96 f) : E96 (f.1, e.2.1, e.2.2) := ⟨c.o1, c.o9, c.t0, c.t1, c.p0, c.p1, a.l0, a.lt, a.h1⟩
theorem step_dom {M : Mem} {x b k p : Addr} {m m3 : MO} {kw : Kpt} {su : List D} {o : MO} (eM : mset M p m = M) : ∀ c, (mset M p m c).isSome = true → (mset (libM (mset M p m3) x b kw su) k o c).isSome = true := fun c h => by
  refine out_dom c ?_
  rw [eM] at h
  by_cases e : c = p
  · rw [e, mset_same]; rfl
  · rw [mset_ne e]; exact h
def S__law_step : DSp := fun ds M R _ => ∃ (p x b k : Addr) (m : MO) (c : Int) (kv : Kpt) (st : List D) (ks : List Key) (es : List D) (nms : List Str), ds = [.own p, .own x, .own k, .lst (nms.map .str)] ∧ M p = some m ∧ PurseOk c m ∧ c ≤ 900000000000 ∧ M x = some (lbO kv b) ∧ M b = some (.lst st) ∧ p ≠ b ∧ M k = some (.dct ks es) ∧ KdOk ks es (lkp kv) ∧ pureL es = true ∧ KOk kv ∧ kv.length < 63 ∧ st.length < sizeLine ∧ nms.length = 40 ∧ (∀ n ∈ nms, GoodN n) ∧ (∀ n e, lkp kv n = some e → E96 e) ∧
  ∀ m' told n o, PurseOk (c + 4000) m' → n ∈ nms → Tl96 told n → (∀ e, o = some e → E96 e) → Out96 (mset M p m') x b kv st told n o R
theorem ok__law_step {P : Program} {w : World} {K : PySem.W.Frag} {mg : Str → Option Value} {base : Heap} {C f : Addr} {fd : FuncData} (T : Txt K mg) (F : FunD K "_law_step" "_law_step" (defArgs s__law_step) (defBody s__law_step) (defScope s__law_step) [] [] f fd) (h__law_draw : CallOk P w K mg base C 2 "_law_draw" 2 S__law_draw []) (h__law_entry : CallOk P w K mg base C 5 "_law_entry" 1 S__law_entry []) (h__law_put : CallOk P w K mg base C 4 "_law_put" 4 S__law_put []) (hmo_Library_widen_3 : MOkO P w K mg base C 3 "Library" "widen" 4 S_Library_widen []) (hmo_Library_change_2 : MOkO P w K mg base C 3 "Library" "change" 3 S_Library_change []) (hmo_Library_drop_1 : MOkO P w K mg base C 3 "Library" "drop" 2 S_Library_drop []) : FnOk P w K mg base CX0 6 f fd ["_law_purse_here", "_law_library", "_law_kept", "_law_names_here"] (spD ⟨K, C⟩ 4 S__law_step) := by
  have nd := sc__law_step.nd
  refine fn_ok 10 4 F sc__law_step (fun cdv A outer s H E hr =>
      (qss_cons (qs_set (i := 4) nd (q_ix (qv 3) (qc h__law_draw hr (by decide) (qa_cons (qv 0) (qa_cons qi qa_nil)))))
      (qss_cons (qs_asg (qc h__law_entry hr (by decide) (qa_cons (qv 0) qa_nil)) (qg_tup (n := 3) (qgs_cons (qg_name (i := 5) nd) (qgs_cons (qg_name (i := 6) nd) (qgs_cons (qg_name (i := 7) nd) qgs_nil)))))
      (qss_cons (qs_if (qt_cmp (c_notInDct hr) (qv 4) (qv 2))
        (qss_one (qs_ret (qc h__law_put hr (by decide) (qa_cons (qv 1) (qa_cons (qv 2) (qa_cons (qv 4) (qa_cons (q_tup (qa_cons (qv 5) (qa_cons (qv 6) (qa_cons (qv 7) qa_nil)))) qa_nil)))))))
        qss_nil)
      (qss_cons (qs_set (i := 8) nd (q_ct b_dictO rfl T.b_dict bb_dict (qa_cons (qv 2) qa_nil)))
      (qss_cons (qs_set (i := 9) nd (qc h__law_draw hr (by decide) (qa_cons (qv 0) (qa_cons qi qa_nil))))
      (qss_cons (qs_if (qt_cmp (c_eq hr) (qv 9) qi)
        (qss_cons (qs_expr (q_methO hmo_Library_widen_3 hr (by decide) (qv 1) (qa_cons (qv 4) (qa_cons (qv 6) (qa_cons (qv 7) qa_nil)))))
        (qss_cons (qs_dput hr (qv 8) (qv 4) (q_tup (qa_cons (q_ixC 0 (q_dget hr (qv 2) (qv 4))) (qa_cons (q_cb b_min2 rfl T.b_min bb_min (qa_cons (qv 6) (qa_cons (q_ixC 1 (q_dget hr (qv 2) (qv 4))) qa_nil))) (qa_cons (q_cb b_max2 rfl T.b_max bb_max (qa_cons (qv 7) (qa_cons (q_ixC 2 (q_dget hr (qv 2) (qv 4))) qa_nil))) qa_nil)))))
        (qss_one (qs_ret (q_tup (qa_cons (qv 8) (qa_cons (q_tup (qa_cons qs (qa_cons (qv 4) (qa_cons (qv 6) (qa_cons (qv 7) qa_nil))))) qa_nil)))))))
        qss_nil)
      (qss_cons (qs_if (qt_cmp (c_eq hr) (qv 9) qi)
        (qss_cons (qs_expr (q_methO hmo_Library_change_2 hr (by decide) (qv 1) (qa_cons (qv 4) (qa_cons (qv 5) qa_nil))))
        (qss_cons (qs_dput hr (qv 8) (qv 4) (q_tup (qa_cons (qv 5) (qa_cons (q_ixC 1 (q_dget hr (qv 2) (qv 4))) (qa_cons (q_ixC 2 (q_dget hr (qv 2) (qv 4))) qa_nil)))))
        (qss_one (qs_ret (q_tup (qa_cons (qv 8) (qa_cons (q_tup (qa_cons qs (qa_cons (qv 4) qa_nil))) qa_nil)))))))
        qss_nil)
      (qss_cons (qs_expr (q_methO hmo_Library_drop_1 hr (by decide) (qv 1) (qa_cons (qv 4) qa_nil)))
      (qss_cons (qs_expr (q_dpop (qv 8) (qv 4)))
      (qss_one (qs_ret (q_tup (qa_cons (qv 8) (qa_cons (q_tup (qa_cons qs (qa_cons (qv 4) qa_nil))) qa_nil))))))))))))))) ?_
  rintro ds M R - ⟨p, x, b, k, m, c, kv, st, ks, es, nms, rfl, hp, hm, hc, hx, hb, pb, hk, kd, pe, ok, kl, sl, nl, ng, en, hR⟩
  have kx : k ≠ x := fun z => by rw [z, hx] at hk; unfold lbO at hk; cases hk
  have kb : k ≠ b := fun z => by rw [z, hb] at hk; cases hk
  have hml : ∃ ds, m = .lst ds := let ⟨_, _, _, e, _⟩ := hm; ⟨_, e⟩
  obtain ⟨mds, rfl⟩ := hml
  have kp : k ≠ p := fun z => by rw [z, hp] at hk; cases hk
  have xp : x ≠ p := fun z => by rw [z, hp] at hx; unfold lbO at hx; cases hx
  have eM := mset_at hp
  walk_at "w"
  rw [← eM]
  refine use_draw hm (by omega) (by omega) ((show Sm 40 40 by decide).mono (by decide)) fun d m1 d0 d1 hm1 => ?_
  walk_at "w"
  obtain ⟨n, hn⟩ : ∃ n, nms[d.toNat]? = some n := ⟨_, List.getElem?_eq_getElem (by omega)⟩
  have nin := List.mem_of_getElem? hn
  have gn := ng n nin
  obtain ⟨j, rfl⟩ : ∃ j : Nat, d = j := ⟨d.toNat, by omega⟩
  refine ⟨.str n, L2.atI_nat (by rw [List.getElem?_map, show nms[j]? = some n by simpa using hn]; rfl), ?_⟩
  walk_at "w"
  refine ⟨p, _, m1, M, rfl, rfl, hm1, by omega, fun e m2 he hm2 => ?_⟩
  have hx2 : mset M p m2 x = some (lbO kv b) := by rw [mset_ne xp]; exact hx
  have hb2 : mset M p m2 b = some (.lst st) := by rw [mset_ne pb.symm]; exact hb
  have hk2 : mset M p m2 k = some (.dct ks es) := by rw [mset_ne kp]; exact hk
  simp only [pcD]
  walk_at "w"
  rw [f_inDct rfl (dctI_own hk2), inNm_kd kd]
  walk_at "w"
  cases hf : lkp kv n with
  | none =>
    have hi : inNm kv (.str n) = false := by show (lkp kv n).isSome = false; rw [hf]; rfl
    refine ⟨fun _ => ?_, fun z => by rw [hi] at z; cases z⟩
    refine ⟨x, b, k, kv, st, ks, es, n, e, rfl, hx2, hb2, hk2, kd, pe, ok, kl, sl, gn, hf, he.lt, fun kv' s k2 ks' es' h1 h2 h3 => ?_⟩
    exact fin_own2 _ Sub.refl (step_dom eM) (by rw [mset_same]; rfl) (by show (true && (true && true)) = true; rfl) (hR m2 _ n (some e) (hm2.mono (by omega)) nin (tl_str (s := "put") gn (by decide +kernel)) (fun e' z => by cases z; exact he) kv' s k2 ks' es' h1 h2 h3)
  | some f =>
    have hi : inNm kv (.str n) = true := by show (lkp kv n).isSome = true; rw [hf]; rfl
    have hef := en n f hf
    refine ⟨fun z => by (rw [hi] at z; cases z), fun _ => ?_⟩
    rw [f_dictO (dctI_own hk2)]
    refine ⟨pe, fun k2 hk2n => ?_⟩
    obtain ⟨hk2n, k2p⟩ := mset_none hk2n
    have k2x : k2 ≠ x := fun z => by rw [z, hx] at hk2n; cases hk2n
    have k2b : k2 ≠ b := fun z => by rw [z, hb] at hk2n; cases hk2n
    have k2k : k2 ≠ k := fun z => by rw [z, hk] at hk2n; cases hk2n
    rw [mset_comm k2p.symm]
    refine use_draw hm2 (by omega) (by omega) ((show Sm 40 3 by decide).mono (by decide)) fun w m3 w0 w1 hm3 => ?_
    rw [← mset_comm k2p.symm]
    have hx3 : mset (mset M p m3) k2 (.dct ks es) x = some (lbO kv b) := by rw [mset_ne k2x.symm, mset_ne xp]; exact hx
    have hb3 : mset (mset M p m3) k2 (.dct ks es) b = some (.lst st) := by rw [mset_ne k2b.symm, mset_ne pb.symm]; exact hb
    have kl2 := kd_len kd
    have s63 : (63 : Nat) < sizeLine := by decide
    have fin9 : ∀ (kv' : Kpt) (told : List D) (o : Option Pc) (ks' : List Key) (es' : List D), SetTo kv n o kv' → Tl96 told n → (∀ e, o = some e → E96 e) → KdOk ks' es' (updF (lkp kv) n o) → pureL es' = true → fin (mset M p (.lst mds)) R (.tup [.own k2, .tup told]) (mset (libM (mset M p m3) x b kv' (st ++ [stD told (lkp kv n)])) k2 (.dct ks' es')) := fun kv' told o ks' es' s t eo hk' pu' => by
      refine fin_own2 _ Sub.refl (step_dom eM) (by rw [mset_same]; rfl) (by show pureL told = true; exact t.pu) (hR m3 told n o (hm3.mono (by omega)) nin t eo kv' s k2 ks' es' ?_ (kd_congr hk' (set_upd s)) pu')
      rw [libM_o k2x k2b, mset_ne k2p]
      exact hk2n
    walk_at "w"
    refine ⟨fun _ => ?_, fun _ => ⟨fun _ => ?_, fun _ => ?_⟩⟩
    · rw [hx3]
      unfold lbO
      walk_at "w"
      refine ⟨x, b, kv, st, n, e.2.1, e.2.2, f, rfl, hx3, hb3, ok, kl, sl, hf, he.lt, fun kv' s => ?_⟩
      have hk4 : mset (libM (mset M p m3) x b kv' (st ++ [stD [.str "widen", .str n, .int e.2.1, .int e.2.2] (some f)])) k2 (.dct ks es) k = some (.dct ks es) := by rw [mset_ne k2k.symm, libM_o kx kb, mset_ne kp]; exact hk
      rw [libM_set k2x k2b]
      dsimp only
      rw [dctI_own hk4]
      dsimp only
      rw [kd.val, hf]
      simp only [Option.map, pcD]
      walk_at "w"
      rw [dctI_own hk4]
      dsimp only
      rw [kd.val, hf]
      simp only [Option.map, pcD]
      walk_at "w"
      have e1 : (if f.2.1 < e.2.1 then f.2.1 else e.2.1) = min f.2.1 e.2.1 := by rw [Int.min_def]; split <;> split <;> omega
      have e2 : (if f.2.2 > e.2.2 then f.2.2 else e.2.2) = max f.2.2 e.2.2 := by rw [Int.max_def]; split <;> split <;> omega
      rw [e1, e2]
      refine ⟨rfl, by omega, ?_⟩
      have := fin9 kv' _ (some (f.1, min f.2.1 e.2.1, max f.2.2 e.2.2)) _ _ s (tl_wid gn e.2.1 e.2.2) (fun g z => by cases z; rw [Int.min_comm, Int.max_comm]; exact hef.wid he.l0 he.h1) (kd.put (n := n)) (pureL_putDs rfl pe)
      rw [hf] at this
      exact this
    · rw [hx3]
      unfold lbO
      walk_at "w"
      refine ⟨x, b, kv, st, n, e.1, f, rfl, hx3, hb3, ok, kl, sl, hf, fun kv' s => ?_⟩
      have hk4 : mset (libM (mset M p m3) x b kv' (st ++ [stD [.str "change", .str n] (some f)])) k2 (.dct ks es) k = some (.dct ks es) := by rw [mset_ne k2k.symm, libM_o kx kb, mset_ne kp]; exact hk
      rw [libM_set k2x k2b]
      dsimp only
      rw [dctI_own hk4]
      dsimp only
      rw [kd.val, hf]
      simp only [Option.map, pcD]
      walk_at "w"
      refine ⟨rfl, by omega, ?_⟩
      have := fin9 kv' _ (some (e.1, f.2.1, f.2.2)) _ _ s (tl_str (s := "change") gn (by decide +kernel)) (fun g z => by cases z; exact hef.chg he) (kd.put (n := n)) (pureL_putDs rfl pe)
      rw [hf] at this
      exact this
    · rw [hx3]
      unfold lbO
      walk_at "w"
      refine ⟨x, b, kv, st, n, rfl, hx3, hb3, ok, kl, sl, by rw [hf]; rfl, fun kv' s => ?_⟩
      rw [libM_set k2x k2b]
      dsimp only
      walk_at "w"
      refine ⟨⟨k2, rfl, ks, es, mset_same⟩, pcD f, by rw [kd.val, hf]; rfl, ?_⟩
      exact fin9 kv' _ none _ _ s (tl_str (s := "drop") gn (by decide +kernel)) (fun g z => by cases z) (kd.drop (n := n)) (pureL_dropDs pe)
abbrev N_Library_log : List Str := ["self", "told", "old"]
theorem sc_Library_log : FnScope N_Library_log ["self"] (defScope s_Library_log) := ⟨rfl, rfl, rfl, by decide +kernel, rfl, by decide +kernel, by decide +kernel⟩
def toldD : D → D
  | .tup [t, _] => t
  | d => d
theorem told_map (ss : List (List D × Option Pc)) : ((ss.map fun s => stD s.1 s.2).filter fun _ => true).map toldD = ss.map fun s => D.tup s.1 := by
  rw [List.filter_eq_self.mpr (fun _ _ => rfl), List.map_map]
  rfl
theorem pure_told : ∀ {ss : List (List D × Option Pc)}, (∀ s ∈ ss, pureL s.1 = true) → pureL (ss.map fun s => D.tup s.1) = true
  | [], _ => rfl
  | s :: r, h => by
    show (pureL s.1 && pureL (r.map fun s => D.tup s.1)) = true
    rw [h s (by simp), pure_told (ss := r) fun z hz => h z (by simp [hz])]
    rfl
def S_Library_log : DSp := fun ds M R _ => ∃ (x b : Addr) (kv : Kpt) (ss : List (List D × Option Pc)), ds = [.own x] ∧ M x = some (lbO kv b) ∧ M b = some (.lst (ss.map fun s => stD s.1 s.2)) ∧ (∀ s ∈ ss, pureL s.1 = true) ∧ ss.length < sizeLine ∧ R (.lst (ss.map fun s => .tup s.1)) M
theorem ok_Library_log {P : Program} {w : World} {K : PySem.W.Frag} {mg : Str → Option Value} {base : Heap} {C f : Addr} {fd : FuncData} (T : Txt K mg) (F : FunD K "log" "Library.log" (defArgs s_Library_log) (defBody s_Library_log) (defScope s_Library_log) [] [] f fd) (oc_Library : OCls K "Library") : FnOk P w K mg base CX0 1 f fd ["self"] (spD ⟨K, C⟩ 1 S_Library_log) := by
  have nd := sc_Library_log.nd
  refine fn_ok 3 1 F sc_Library_log (fun cdv A outer s H E hr =>
      (qss_one (qs_ret (q_lc (own := [("told", 1), ("old", 2)]) nd (qi_list (q_fldO oc_Library 1 (by decide +kernel) (qv 0))) (blkOk_by (own := [("told", 1), ("old", 2)]) (N := N_Library_log) (sc := defScope s_Library_log) (by decide +kernel)) (fun _ _ _ _ _ => (qgw_tup (n := 2) (qgsw_cons (qgw_name (i := 1) nd) (qgsw_cons (qgw_name (i := 2) nd) qgsw_nil)))) (fun _ _ _ _ _ => qts_nil) (fun _ _ _ _ _ => (qv 1)))))) ?_
  rintro ds M R - ⟨x, b, kv, ss, rfl, hx, hb, pu, hl, hR⟩
  walk_at "w"
  refine mf_own (fun _ => true) toldD b (ss.map fun s => stD s.1 s.2) (fun F z => by walk_at "w"; rw [hx]; unfold lbO; walk_at "w"; exact ⟨by rw [hb]; rfl, z⟩) hb (by rw [List.length_map]; exact hl) ?_ ?_ ?_
  · intro d hd _
    obtain ⟨s, hs, rfl⟩ := List.mem_map.mp hd
    exact pu s hs
  · intro i d p acc P Q hd hp hP hQ
    obtain ⟨s, hs, rfl⟩ := List.mem_map.mp (List.mem_of_getElem? hd)
    unfold stD at hP ⊢
    walk_at "w"
    exact hP rfl
  rw [told_map]
  exact fin_pure hR (pure_told pu)
abbrev N_Library_names : List Str := ["self"]
theorem sc_Library_names : FnScope N_Library_names ["self"] (defScope s_Library_names) := ⟨rfl, rfl, rfl, by decide +kernel, rfl, by decide +kernel, by decide +kernel⟩
theorem kKs_datK (kv : Kpt) : (kKs kv).map datK = (kv.map (·.1)).map D.str := by
  unfold kKs
  rw [List.map_map, List.map_map]
  rfl
theorem pure_names : ∀ (ns : List Str), pureL (ns.map D.str) = true
  | [] => rfl
  | n :: r => by
    show (true && pureL (r.map D.str)) = true
    rw [pure_names r]
    rfl
def S_Library_names : DSp := fun ds M R _ => ∃ (x b : Addr) (kv : Kpt), ds = [.own x] ∧ M x = some (lbO kv b) ∧ R (.lst ((kv.map (·.1)).map .str)) M
theorem ok_Library_names {P : Program} {w : World} {K : PySem.W.Frag} {mg : Str → Option Value} {base : Heap} {C f : Addr} {fd : FuncData} (T : Txt K mg) (F : FunD K "names" "Library.names" (defArgs s_Library_names) (defBody s_Library_names) (defScope s_Library_names) [] [] f fd) (oc_Library : OCls K "Library") : FnOk P w K mg base CX0 1 f fd ["self"] (spD ⟨K, C⟩ 1 S_Library_names) := by
  have nd := sc_Library_names.nd
  refine fn_ok 1 1 F sc_Library_names (fun cdv A outer s H E hr =>
      (qss_one (qs_ret (q_keysL T.b_list (q_fldO oc_Library 0 (by decide +kernel) (qv 0)))))) ?_
  rintro ds M R - ⟨x, b, kv, rfl, hx, hR⟩
  walk_at "w"
  rw [hx]
  unfold lbO
  walk_at "w"
  rw [kKs_datK]
  exact fin_pure hR (pure_names _)
abbrev N_Library___len__ : List Str := ["self"]
theorem sc_Library___len__ : FnScope N_Library___len__ ["self"] (defScope s_Library___len__) := ⟨rfl, rfl, rfl, by decide +kernel, rfl, by decide +kernel, by decide +kernel⟩
def S_Library___len__ : DSp := fun ds M R _ => ∃ (x b : Addr) (kv : Kpt), ds = [.own x] ∧ M x = some (lbO kv b) ∧ R (.int kv.length) M
theorem ok_Library___len__ {P : Program} {w : World} {K : PySem.W.Frag} {mg : Str → Option Value} {base : Heap} {C f : Addr} {fd : FuncData} (T : Txt K mg) (F : FunD K "__len__" "Library.__len__" (defArgs s_Library___len__) (defBody s_Library___len__) (defScope s_Library___len__) [] [] f fd) (oc_Library : OCls K "Library") : FnOk P w K mg base CX0 1 f fd ["self"] (spD ⟨K, C⟩ 1 S_Library___len__) := by
  have nd := sc_Library___len__.nd
  refine fn_ok 1 1 F sc_Library___len__ (fun cdv A outer s H E hr =>
      (qss_one (qs_ret (q_cb b_lenD rfl T.b_len bb_len (qa_cons (q_fldO oc_Library 0 (by decide +kernel) (qv 0)) qa_nil))))) ?_
  rintro ds M R - ⟨x, b, kv, rfl, hx, hR⟩
  walk_at "w"
  rw [hx]
  unfold lbO
  walk_at "w"
  rw [show (kKs kv).length = kv.length by unfold kKs; simp]
  exact fin_pure hR
abbrev N_Library___contains__ : List Str := ["self", "name"]
theorem sc_Library___contains__ : FnScope N_Library___contains__ ["self", "name"] (defScope s_Library___contains__) := ⟨rfl, rfl, rfl, by decide +kernel, rfl, by decide +kernel, by decide +kernel⟩
def S_Library___contains__ : DSp := fun ds M R _ => ∃ (x b : Addr) (kv : Kpt) (d : D), ds = [.own x, d] ∧ M x = some (lbO kv b) ∧ tyL d = true ∧ pureD d = true ∧ R (.bl (inNm kv d)) M
theorem ok_Library___contains__ {P : Program} {w : World} {K : PySem.W.Frag} {mg : Str → Option Value} {base : Heap} {C f : Addr} {fd : FuncData} (T : Txt K mg) (F : FunD K "__contains__" "Library.__contains__" (defArgs s_Library___contains__) (defBody s_Library___contains__) (defScope s_Library___contains__) [] [] f fd) (oc_Library : OCls K "Library") (h_isL : IsiF K mg C) : FnOk P w K mg base CX0 1 f fd ["self", "name"] (spD ⟨K, C⟩ 2 S_Library___contains__) := by
  have nd := sc_Library___contains__.nd
  refine fn_ok 2 2 F sc_Library___contains__ (fun cdv A outer s H E hr =>
      (qss_one (qs_ret (q_and (q_isiL .str h_isL (qv 1) rfl T.b_isinstance bb_isinstance rfl T.b_str bb_str) (q_one (q_cmp (c_inDct hr) (qv 1) (q_fldO oc_Library 0 (by decide +kernel) (qv 0)))))))) ?_
  rintro ds M R - ⟨x, b, kv, d, rfl, hx, ty, pu, hR⟩
  cases d with
  | str n =>
    walk_at "w"
    rw [hx]
    unfold lbO
    walk_at "w"
    rw [dVal_kept, Option.isSome_map]
    exact fin_pure hR
  | scr _ => cases ty
  | own _ => cases ty
  | exn _ _ => cases ty
  | exn0 _ => cases ty
  | cls => cases ty
  | _ => walk_at "w"; exact fin_pure hR
abbrev N_Line_over : List Str := ["self"]
theorem sc_Line_over : FnScope N_Line_over ["self"] (defScope s_Line_over) := ⟨rfl, rfl, rfl, by decide +kernel, rfl, by decide +kernel, by decide +kernel⟩
def S_Line_over : DSp := fun ds M R _ => ∃ t p o, ds = [.ln t p o] ∧ R (.int o) M
theorem e_lo {t p o : Int} {M : Mem} {R : DR} {X : DX} : S_Line_over [.ln t p o] M R X = R (.int o) M := propext ⟨fun ⟨_, _, _, e, h⟩ => by cases e; exact h, fun h => ⟨_, _, _, rfl, h⟩⟩
theorem ok_Line_over {P : Program} {w : World} {K : PySem.W.Frag} {mg : Str → Option Value} {base : Heap} {C f : Addr} {fd : FuncData} (T : Txt K mg) (F : FunD K "over" "Line.over" (defArgs s_Line_over) (defBody s_Line_over) (defScope s_Line_over) [] [] f fd) (cl : Cls K C ∧ NoAttr K C "parts") : FnOk P w K mg base CX0 1 f fd ["self"] (spD ⟨K, C⟩ 1 S_Line_over) := by
  have nd := sc_Line_over.nd
  refine fn_ok 1 1 F sc_Line_over (fun cdv A outer s H E hr =>
      (qss_one (qs_ret (q_ixC 2 (q_parts cl.1 cl.2 (qv 0)))))) ?_
  rintro ds M R - ⟨t, p, o, rfl, hR⟩
  walk_at "w"
  exact fin_pure hR
abbrev N_Line_plus : List Str := ["self"]
theorem sc_Line_plus : FnScope N_Line_plus ["self"] (defScope s_Line_plus) := ⟨rfl, rfl, rfl, by decide +kernel, rfl, by decide +kernel, by decide +kernel⟩
def S_Line_plus : DSp := fun ds M R _ => ∃ t p o, ds = [.ln t p o] ∧ R (.int p) M
theorem e_lp {t p o : Int} {M : Mem} {R : DR} {X : DX} : S_Line_plus [.ln t p o] M R X = R (.int p) M := propext ⟨fun ⟨_, _, _, e, h⟩ => by cases e; exact h, fun h => ⟨_, _, _, rfl, h⟩⟩
theorem ok_Line_plus {P : Program} {w : World} {K : PySem.W.Frag} {mg : Str → Option Value} {base : Heap} {C f : Addr} {fd : FuncData} (T : Txt K mg) (F : FunD K "plus" "Line.plus" (defArgs s_Line_plus) (defBody s_Line_plus) (defScope s_Line_plus) [] [] f fd) (cl : Cls K C ∧ NoAttr K C "parts") : FnOk P w K mg base CX0 1 f fd ["self"] (spD ⟨K, C⟩ 1 S_Line_plus) := by
  have nd := sc_Line_plus.nd
  refine fn_ok 1 1 F sc_Line_plus (fun cdv A outer s H E hr =>
      (qss_one (qs_ret (q_ixC 1 (q_parts cl.1 cl.2 (qv 0)))))) ?_
  rintro ds M R - ⟨t, p, o, rfl, hR⟩
  walk_at "w"
  exact fin_pure hR
abbrev N_Line_times : List Str := ["self"]
theorem sc_Line_times : FnScope N_Line_times ["self"] (defScope s_Line_times) := ⟨rfl, rfl, rfl, by decide +kernel, rfl, by decide +kernel, by decide +kernel⟩
def S_Line_times : DSp := fun ds M R _ => ∃ t p o, ds = [.ln t p o] ∧ R (.int t) M
theorem e_lt {t p o : Int} {M : Mem} {R : DR} {X : DX} : S_Line_times [.ln t p o] M R X = R (.int t) M := propext ⟨fun ⟨_, _, _, e, h⟩ => by cases e; exact h, fun h => ⟨_, _, _, rfl, h⟩⟩
theorem ok_Line_times {P : Program} {w : World} {K : PySem.W.Frag} {mg : Str → Option Value} {base : Heap} {C f : Addr} {fd : FuncData} (T : Txt K mg) (F : FunD K "times" "Line.times" (defArgs s_Line_times) (defBody s_Line_times) (defScope s_Line_times) [] [] f fd) (cl : Cls K C ∧ NoAttr K C "parts") : FnOk P w K mg base CX0 1 f fd ["self"] (spD ⟨K, C⟩ 1 S_Line_times) := by
  have nd := sc_Line_times.nd
  refine fn_ok 1 1 F sc_Line_times (fun cdv A outer s H E hr =>
      (qss_one (qs_ret (q_ixC 0 (q_parts cl.1 cl.2 (qv 0)))))) ?_
  rintro ds M R - ⟨t, p, o, rfl, hR⟩
  walk_at "w"
  exact fin_pure hR
abbrev N_Line___repr__ : List Str := ["self"]
theorem sc_Line___repr__ : FnScope N_Line___repr__ ["self"] (defScope s_Line___repr__) := ⟨rfl, rfl, rfl, by decide +kernel, rfl, by decide +kernel, by decide +kernel⟩
def shL (t p o : Int) : Str := Str.empty ++ "Line(" ++ (toString t : String) ++ ", " ++ (toString p : String) ++ ", " ++ (toString o : String) ++ ")"
def S_Line___repr__ : DSp := fun ds M R _ => ∃ t p o, ds = [.ln t p o] ∧ Sm 900 t ∧ Sm 900 p ∧ Sm 900 o ∧ R (.str (shL t p o)) M
theorem ok_Line___repr__ {P : Program} {w : World} {K : PySem.W.Frag} {mg : Str → Option Value} {base : Heap} {C f : Addr} {fd : FuncData} (T : Txt K mg) (F : FunD K "__repr__" "Line.__repr__" (defArgs s_Line___repr__) (defBody s_Line___repr__) (defScope s_Line___repr__) [] [] f fd) (hp_over : POk P w K mg base C 1 "over" S_Line_over) (hp_plus : POk P w K mg base C 1 "plus" S_Line_plus) (hp_times : POk P w K mg base C 1 "times" S_Line_times) : FnOk P w K mg base CX0 3 f fd ["self"] (spD ⟨K, C⟩ 1 S_Line___repr__) := by
  have nd := sc_Line___repr__.nd
  refine fn_ok 1 1 F sc_Line___repr__ (fun cdv A outer s H E hr =>
      (qss_one (qs_ret (q_fs (qj_cons qs (qj_cons (q_fmt (q_prop hp_times hr (by decide) (qv 0))) (qj_cons qs (qj_cons (q_fmt (q_prop hp_plus hr (by decide) (qv 0))) (qj_cons qs (qj_cons (q_fmt (q_prop hp_over hr (by decide) (qv 0))) (qj_cons qs qj_nil))))))))))) ?_
  rintro ds M R - ⟨t, p, o, rfl, st, sp, so, hR⟩
  have lt := len_int st (by decide)
  have lp := len_int sp (by decide)
  have lo := len_int so (by decide)
  have a0 : Str.empty.length = 0 := rfl
  have a1 : (Str.ofString "Line(").length = 5 := by decide +kernel
  have a2 : (Str.ofString ", ").length = 2 := by decide +kernel
  have a3 : (Str.ofString ")").length = 1 := by decide +kernel
  have fit : ∀ {x : Str}, x.length ≤ 3000 → x.length ≤ sizeLine := fun h => by rw [sizeLine_eq]; omega
  have lg : ∀ {i : Int}, Sm 900 i → i.natAbs.log2 < 1920 := fun h => Nat.lt_of_lt_of_le (h.log (by decide)) (by decide)
  walk_at "w"
  refine ⟨fit (by simp only [Str.length_append, a0, a1]; omega), t, p, o, rfl, ?_⟩
  walk_at "w"
  refine ⟨lg st, fit (by simp only [Str.length_append, a0, a1]; omega), fit (by simp only [Str.length_append, a0, a1, a2]; omega), t, p, o, rfl, ?_⟩
  walk_at "w"
  refine ⟨lg sp, fit (by simp only [Str.length_append, a0, a1, a2]; omega), fit (by simp only [Str.length_append, a0, a1, a2]; omega), t, p, o, rfl, ?_⟩
  walk_at "w"
  exact ⟨lg so, fit (by simp only [Str.length_append, a0, a1, a2]; omega), fit (by simp only [Str.length_append, a0, a1, a2, a3]; omega), fin_pure hR⟩
abbrev N__law_entry_right : List Str := ["_law_found", "_law_due"]
theorem sc__law_entry_right : FnScope N__law_entry_right ["_law_found", "_law_due"] (defScope s__law_entry_right) := ⟨rfl, rfl, rfl, by decide +kernel, rfl, by decide +kernel, by decide +kernel⟩
def S__law_entry_right : DSp := fun ds M R _ => ∃ e : Pc, ds = [pcD e, pcD e] ∧ E96 e ∧ R (.bl true) M
theorem ok__law_entry_right {P : Program} {w : World} {K : PySem.W.Frag} {mg : Str → Option Value} {base : Heap} {C f : Addr} {fd : FuncData} (T : Txt K mg) (F : FunD K "_law_entry_right" "_law_entry_right" (defArgs s__law_entry_right) (defBody s__law_entry_right) (defScope s__law_entry_right) [] [] f fd) (hur___repr__ : UOk P w K mg base C 3 "__repr__" 1 S_Line___repr__) : FnOk P w K mg base CX0 5 f fd ["_law_found", "_law_due"] (spD ⟨K, C⟩ 2 S__law_entry_right) := by
  have nd := sc__law_entry_right.nd
  refine fn_ok 2 2 F sc__law_entry_right (fun cdv A outer s H E hr =>
      (qss_cons (qs_if (QW.qt (qw_or (qt_not (qt_val (q_isi .tup (qv 0) rfl T.b_isinstance bb_isinstance rfl T.b_tuple bb_tuple))) (qw_or (qt_cmp (c_ne hr) (q_cb b_len rfl T.b_len bb_len (qa_cons (qv 0) qa_nil)) qi) (qw_or1 (qt_cmp (c_ne hr) (q_cb (b_reprL hur___repr__ hr (by decide)) rfl T.b_repr bb_repr (qa_cons (q_ixC 0 (qv 0)) qa_nil)) (q_cb (b_reprL hur___repr__ hr (by decide)) rfl T.b_repr bb_repr (qa_cons (q_ixC 0 (qv 1)) qa_nil)))))))
        (qss_one (qs_ret qb))
        qss_nil)
      (qss_one (qs_ret (q_and (q_cmp (c_eq hr) (q_ixC 1 (qv 0)) (q_ixC 1 (qv 1))) (q_one (q_cmp (c_eq hr) (q_ixC 2 (qv 0)) (q_ixC 2 (qv 1))))))))) ?_
  rintro ds M R - ⟨e, rfl, he, hR⟩
  simp only [pcD, trL]
  walk_at "w"
  have sm : Sm 900 e.1.1 ∧ Sm 900 e.1.2.1 ∧ Sm 900 e.1.2.2 := by
    have := he.t0; have := he.t1; have := he.p0; have := he.p1; have := he.o1; have := he.o9
    exact ⟨(show Sm 40 e.1.1 from sm_of (by omega) (by omega)).mono (by decide), (show Sm 40 e.1.2.1 from sm_of (by omega) (by omega)).mono (by decide), (show Sm 40 e.1.2.2 from sm_of (by omega) (by omega)).mono (by decide)⟩
  have st : PyData.strOk (shL e.1.1 e.1.2.1 e.1.2.2) = true := by
    have e0 : PyData.strOk Str.empty = true := by decide +kernel
    unfold shL
    simp only [okS_app, okS_of, e0, Bool.and_true]
  refine ⟨_, _, _, rfl, sm.1, sm.2.1, sm.2.2, rfl, _, _, _, rfl, sm.1, sm.2.1, sm.2.2, rfl, ?_⟩
  refine eqG_self (d := .str (shL e.1.1 e.1.2.1 e.1.2.2)) (by show PyData.strOk _ = true; exact st) ?_
  exact ⟨fun z => (by cases z), fun _ => fin_pure hR⟩
abbrev N_Library_entry : List Str := ["self", "name"]
theorem sc_Library_entry : FnScope N_Library_entry ["self", "name"] (defScope s_Library_entry) := ⟨rfl, rfl, rfl, by decide +kernel, rfl, by decide +kernel, by decide +kernel⟩
def S_Library_entry : DSp := fun ds M R _ => ∃ (x b : Addr) (kv : Kpt) (n : Str) (e : Pc), ds = [.own x, .str n] ∧ M x = some (lbO kv b) ∧ lkp kv n = some e ∧ R (pcD e) M
theorem ok_Library_entry {P : Program} {w : World} {K : PySem.W.Frag} {mg : Str → Option Value} {base : Heap} {C f : Addr} {fd : FuncData} (T : Txt K mg) (F : FunD K "entry" "Library.entry" (defArgs s_Library_entry) (defBody s_Library_entry) (defScope s_Library_entry) [] [] f fd) (hmo_Library_check_kept_1 : MOkO P w K mg base C 1 "Library" "check_kept" 2 S_Library_check_kept []) (oc_Library : OCls K "Library") : FnOk P w K mg base CX0 2 f fd ["self", "name"] (spD ⟨K, C⟩ 2 S_Library_entry) := by
  have nd := sc_Library_entry.nd
  refine fn_ok 2 2 F sc_Library_entry (fun cdv A outer s H E hr =>
      (qss_cons (qs_expr (q_methO hmo_Library_check_kept_1 hr (by decide) (qv 0) (qa_cons (qv 1) qa_nil)))
      (qss_one (qs_ret (q_dget hr (q_fldO oc_Library 0 (by decide +kernel) (qv 0)) (qv 1)))))) ?_
  rintro ds M R - ⟨x, b, kv, n, e, rfl, hx, hn, hR⟩
  walk_at "w"
  rw [hx]
  unfold lbO
  walk_at "w"
  refine ⟨x, b, kv, n, rfl, hx, by rw [hn]; rfl, ?_⟩
  walk_at "w"
  rw [hx]
  unfold lbO
  walk_at "w"
  rw [dVal_kept, hn]
  exact fin_pure hR
abbrev N__law_shows : List Str := ["_law_library", "_law_kept", "_law_log", "_law_name"]
theorem sc__law_shows : FnScope N__law_shows ["_law_library", "_law_kept", "_law_log"] (defScope s__law_shows) := ⟨rfl, rfl, rfl, by decide +kernel, rfl, by decide +kernel, by decide +kernel⟩
structure Lb96 (nms : List Str) (kv : Kpt) (ss : List (List D × Option Pc)) : Prop where
  ok : KOk kv
  en : ∀ n e, lkp kv n = some e → n ∈ nms ∧ E96 e
  tl : ∀ s ∈ ss, ∃ n ∈ nms, Tl96 s.1 n
  gn : ∀ n ∈ nms, GoodN n
  nl : nms.length = 40
  sl : ss.length ≤ 300
theorem Lb96.kl {nms : List Str} {kv : Kpt} {ss : List (List D × Option Pc)} (h : Lb96 nms kv ss) : kv.length ≤ 40 := by
  have := nodup_le h.ok.nd fun n hn => (by
    obtain ⟨e, he⟩ := Option.isSome_iff_exists.mp (lkp_mem.mpr hn)
    exact (h.en n e he).1 : n ∈ nms)
  rw [List.length_map, h.nl] at this
  exact this
theorem lenB96 {n : Nat} (h : n ≤ 1000000) : lenB (.int n) = true := by
  unfold lenB
  rw [Bool.and_eq_true, decide_eq_true_eq, decide_eq_true_eq]
  omega
theorem cmp_tolds {nms : List Str} : ∀ {ss : List (List D × Option Pc)}, (∀ s ∈ ss, ∃ n ∈ nms, Tl96 s.1 n) → cmpL 63 (ss.map fun s => D.tup s.1) = true
  | [], _ => rfl
  | s :: r, h => by
    obtain ⟨n, _, t⟩ := h s (by simp)
    show (cmpL 62 s.1 && cmpL 63 (r.map fun s => D.tup s.1)) = true
    rw [t.cm, cmp_tolds (ss := r) fun z hz => h z (by simp [hz])]
    rfl
def S__law_shows : DSp := fun ds M R _ => ∃ (x b k : Addr) (lg : D) (nms : List Str) (kv : Kpt) (ss : List (List D × Option Pc)) (ks : List Key) (es : List D), ds = [.own x, .own k, lg] ∧ M x = some (lbO kv b) ∧ M b = some (.lst (ss.map fun s => stD s.1 s.2)) ∧ M k = some (.dct ks es) ∧ KdOk ks es (lkp kv) ∧ LsD M lg (ss.map fun s => .tup s.1) ∧ Lb96 nms kv ss ∧ R (.bl true) M
theorem ok__law_shows {P : Program} {w : World} {K : PySem.W.Frag} {mg : Str → Option Value} {base : Heap} {C f : Addr} {fd : FuncData} (T : Txt K mg) (F : FunD K "_law_shows" "_law_shows" (defArgs s__law_shows) (defBody s__law_shows) (defScope s__law_shows) [] [] f fd) (hmo_Library_log_0 : MOkO P w K mg base C 1 "Library" "log" 1 S_Library_log []) (hmo_Library_names_0 : MOkO P w K mg base C 1 "Library" "names" 1 S_Library_names []) (huo___len__ : UOkO P w K mg base C 1 "Library" "__len__" 1 S_Library___len__) (huo___contains__ : UOkO P w K mg base C 1 "Library" "__contains__" 2 S_Library___contains__) (h__law_entry_right : CallOk P w K mg base C 5 "_law_entry_right" 2 S__law_entry_right []) (hmo_Library_entry_1 : MOkO P w K mg base C 2 "Library" "entry" 2 S_Library_entry []) : FnOk P w K mg base CX0 6 f fd ["_law_library", "_law_kept", "_law_log"] (spD ⟨K, C⟩ 3 S__law_shows) := by
  have nd := sc__law_shows.nd
  refine fn_ok 4 3 F sc__law_shows (fun cdv A outer s H E hr =>
      (qss_cons (qs_if (QW.qt (qw_or (qt_cmp (c_ne hr) (q_cb (b_lenU huo___len__ hr (by decide)) rfl T.b_len bb_len (qa_cons (qv 0) qa_nil)) (q_cb b_lenD rfl T.b_len bb_len (qa_cons (qv 1) qa_nil))) (qw_or (qt_cmp (c_ne hr) (q_methO0 hmo_Library_names_0 hr (by decide) (qv 0)) (q_cb b_sortD rfl T.b_sorted bb_sorted (qa_cons (qv 1) qa_nil))) (qw_or1 (qt_cmp (c_ne hr) (q_methO0 hmo_Library_log_0 hr (by decide) (qv 0)) (qv 2))))))
        (qss_one (qs_ret qb))
        qss_nil)
      (qss_cons (qs_lk (qs_if (qt_cmp (c_ne hr) (q_lc (own := [("_law_name", 3)]) nd (qi_lk (qv 1)) (blkOk_by (own := [("_law_name", 3)]) (N := N__law_shows) (sc := defScope s__law_shows) (by decide +kernel)) (fun _ _ _ _ _ => (qgw_name (i := 3) nd)) (fun _ _ _ _ _ => (qts_one (qt_cmp (c_notInU huo___contains__ hr (by decide)) (qv 3) (qv 0)))) (fun _ _ _ _ _ => (qv 3))) (q_lst qa_nil))
        (qss_one (qs_ret qb))
        qss_nil))
      (qss_one (qs_lk (qs_ret (q_cmp (c_eq hr) (q_lc (own := [("_law_name", 3)]) nd (qi_lk (qv 1)) (blkOk_by (own := [("_law_name", 3)]) (N := N__law_shows) (sc := defScope s__law_shows) (by decide +kernel)) (fun _ _ _ _ _ => (qgw_name (i := 3) nd)) (fun _ _ _ _ _ => (qts_one (qt_not (qt_val (qc h__law_entry_right hr (by decide) (qa_cons (q_methO hmo_Library_entry_1 hr (by decide) (qv 0) (qa_cons (qv 3) qa_nil)) (qa_cons (q_dget hr (qv 1) (qv 3)) qa_nil))))))) (fun _ _ _ _ _ => (qv 3))) (q_lst qa_nil)))))))) ?_
  rintro ds M R - ⟨x, b, k, lg, nms, kv, ss, ks, es, rfl, hx, hb, hk, kd, hl, lb, hR⟩
  have kl := lb.kl
  walk_at "w"
  rw [hx]
  unfold lbO
  walk_at "w"
  refine ⟨x, b, kv, rfl, hx, ?_⟩
  obtain ⟨ms, ek, nd, mm⟩ := kd.nm
  have same : ∀ n, n ∈ kv.map (·.1) ↔ n ∈ ms := fun n => by rw [← lkp_mem, mm]
  have eql : kv.length = ks.length := by
    rw [ek, List.length_map]
    have h1 := nodup_le lb.ok.nd fun n hn => (same n).mp hn
    have h2 := nodup_le nd fun n hn => (same n).mpr hn
    rw [List.length_map] at h1 h2
    omega
  have ml : ms.length ≤ 40 := by rw [eql, ek, List.length_map] at kl; exact kl
  have gk : ∀ n ∈ kv.map (·.1), n ∈ nms := fun n hn => by
    obtain ⟨e, he⟩ := Option.isSome_iff_exists.mp (lkp_mem.mpr hn)
    exact (lb.en n e he).1
  have s300 : (300 : Nat) < sizeLine := by decide
  refine ⟨lenB96 (by omega), ?_⟩
  rw [f_lenD (dctI_own hk), eql]
  refine eqG_self (d := .int ks.length) rfl ⟨fun z => (by cases z), fun _ => ?_⟩
  rw [hx]
  unfold lbO
  refine ⟨rfl, x, b, kv, rfl, hx, ?_⟩
  dsimp only
  rw [f_sortD (dctI_own hk) (show strKs ks = some ms by rw [ek]; exact strKs_map ms)]
  refine ⟨by omega, fun ys hp hs => ?_⟩
  have ey : kv.map (·.1) = ys := sorted_eq lb.ok.so (sorted_pw hs) lb.ok.nd (hp.nodup_iff.mpr nd) fun n => (same n).trans hp.mem_iff.symm
  rw [ey]
  refine eqG_self (by show cmpL 63 _ = true; exact cmp_names 62 fun n hn => lb.gn n (gk n (by rw [ey]; exact hn))) ?_
  refine ⟨fun z => (by cases z), fun _ => ?_⟩
  rw [hx]
  unfold lbO
  have ps : ∀ s ∈ ss, pureL s.1 = true := fun s hs => let ⟨_, _, t⟩ := lb.tl s hs; t.pu
  have sl := lb.sl
  refine ⟨rfl, x, b, kv, ss, rfl, hx, hb, ps, by omega, ?_⟩
  refine eqG_lsD (.inl rfl) hl (by show cmpL 63 _ = true; exact cmp_tolds lb.tl) ?_
  refine ⟨fun z => (by cases z), fun _ => ?_⟩
  rw [e_vLk]
  refine ⟨k, ks, es, hk, fun o xs => ?_⟩
  have xk : x ≠ k := fun z => by rw [z, hk] at hx; cases hx
  have hx2 : mset M k (.lck o xs ks es) x = some (lbO kv b) := by rw [mset_ne xk]; exact hx
  walk_at "w"
  refine mf_lk (fun _ => false) (fun d => d) k (fun F z => by walk_at "w"; exact z) mset_same (by rw [← eql]; omega) (fun d hd c => by cases c) ?_ ?_
  · intro i d r acc P Q hd hr hP hQ
    rw [ek, List.getElem?_map, List.getElem?_map, Option.map_eq_some_iff] at hd
    obtain ⟨key, hd, rfl⟩ := hd
    rw [Option.map_eq_some_iff] at hd
    obtain ⟨n, hd, rfl⟩ := hd
    have hn := (mm n).mp (List.mem_of_getElem? hd)
    have xr : x ≠ r := fun z => by rw [z, hr] at hx2; cases hx2
    have hx3 : mset (mset M k (.lck o xs ks es)) r (.lst acc) x = some (lbO kv b) := by rw [mset_ne xr]; exact hx2
    simp only [datK]
    walk_at "w"
    rw [hx3]
    unfold lbO
    walk_at "w"
    refine ⟨x, b, kv, .str n, rfl, hx3, rfl, rfl, ?_⟩
    rw [show inNm kv (.str n) = true from hn]
    walk_at "w"
    exact hQ rfl
  have ef : List.map (fun d => d) (List.filter (fun _ => false) (List.map datK ks)) = ([] : List D) := by
    rw [List.filter_eq_nil_iff.mpr (fun _ _ => by simp)]
    rfl
  rw [ef]
  refine eqG_self (d := .lst []) rfl ⟨fun z => (by cases z), fun _ => ⟨mset_same, ?_⟩⟩
  rw [mset_set, mset_at hk, e_vLk]
  refine ⟨k, ks, es, hk, fun o xs => ?_⟩
  have hx2 : mset M k (.lck o xs ks es) x = some (lbO kv b) := by rw [mset_ne xk]; exact hx
  walk_at "w"
  refine mf_lk (fun _ => false) (fun d => d) k (fun F z => by walk_at "w"; exact z) mset_same (by rw [← eql]; omega) (fun d hd c => by cases c) ?_ ?_
  · intro i d r acc P Q hd hr hP hQ
    rw [ek, List.getElem?_map, List.getElem?_map, Option.map_eq_some_iff] at hd
    obtain ⟨key, hd, rfl⟩ := hd
    rw [Option.map_eq_some_iff] at hd
    obtain ⟨n, hd, rfl⟩ := hd
    have hn := (mm n).mp (List.mem_of_getElem? hd)
    obtain ⟨e, he⟩ := Option.isSome_iff_exists.mp hn
    have xr : x ≠ r := fun z => by rw [z, hr] at hx2; cases hx2
    have hx3 : mset (mset M k (.lck o xs ks es)) r (.lst acc) x = some (lbO kv b) := by rw [mset_ne xr]; exact hx2
    have kr : k ≠ r := fun z => by rw [← z, mset_same] at hr; cases hr
    simp only [datK]
    walk_at "w"
    rw [hx3]
    unfold lbO
    walk_at "w"
    refine ⟨x, b, kv, n, e, rfl, hx3, he, ?_⟩
    dsimp only
    rw [dctI_lck (by rw [mset_ne kr]; exact mset_same)]
    walk_at "w"
    rw [kd.val, he]
    refine ⟨e, rfl, (lb.en n e he).2, ?_⟩
    walk_at "w"
    exact hQ rfl
  rw [ef]
  refine eqG_self (d := .lst []) rfl ⟨mset_same, ?_⟩
  rw [mset_set, mset_at hk]
  exact fin_pure hR
abbrev N_is_piece : List Str := ["value"]
theorem sc_is_piece : FnScope N_is_piece ["value"] (defScope s_is_piece) := ⟨rfl, rfl, rfl, by decide +kernel, rfl, by decide +kernel, by decide +kernel⟩
def S_is_piece : DSp := fun ds M R _ => ∃ p : Pc, ds = [pcD p] ∧ p.2.1 ≤ p.2.2 ∧ R (.bl true) M
theorem ok_is_piece {P : Program} {w : World} {K : PySem.W.Frag} {mg : Str → Option Value} {base : Heap} {C f : Addr} {fd : FuncData} (T : Txt K mg) (F : FunD K "is_piece" "is_piece" (defArgs s_is_piece) (defBody s_is_piece) (defScope s_is_piece) [] [] f fd) (h_isL : IsiF K mg C) (h_is_whole : CallOk P w K mg base C 1 "is_whole" 1 S_is_whole []) : FnOk P w K mg base CX0 2 f fd ["value"] (spD ⟨K, C⟩ 1 S_is_piece) := by
  have nd := sc_is_piece.nd
  refine fn_ok 1 1 F sc_is_piece (fun cdv A outer s H E hr =>
      (qss_cons (qs_if (QW.qt (qw_or (qt_not (qt_val (q_isi .tup (qv 0) rfl T.b_isinstance bb_isinstance rfl T.b_tuple bb_tuple))) (qw_or (qt_cmp (c_ne hr) (q_cb b_len rfl T.b_len bb_len (qa_cons (qv 0) qa_nil)) qi) (qw_or1 (qt_not (qt_val (q_isL h_isL (q_ixC 0 (qv 0)) rfl T.b_isinstance bb_isinstance)))))))
        (qss_one (qs_ret qb))
        qss_nil)
      (qss_one (qs_ret (q_and (qc h_is_whole hr (by decide) (qa_cons (q_ixC 1 (qv 0)) qa_nil)) (q_and (qc h_is_whole hr (by decide) (qa_cons (q_ixC 2 (qv 0)) qa_nil)) (q_one (q_cmp c_le (q_ixC 1 (qv 0)) (q_ixC 2 (qv 0)))))))))) ?_
  rintro ds M R - ⟨⟨⟨t, q, o⟩, l, h⟩, rfl, hlh, hR⟩
  simp only [pcD, trL] at *
  walk_at "w"
  refine ⟨_, rfl, rfl, ?_⟩
  walk_at "w"
  refine ⟨_, rfl, rfl, ?_⟩
  walk_at "w"
  exact fin_pure (by rw [decide_eq_true hlh]; exact hR)
abbrev N_check_pieces : List Str := ["pieces", "piece"]
theorem sc_check_pieces : FnScope N_check_pieces ["pieces"] (defScope s_check_pieces) := ⟨rfl, rfl, rfl, by decide +kernel, rfl, by decide +kernel, by decide +kernel⟩
def S_check_pieces : DSp := fun ds M R _ => ∃ P : List Pc, ds = [.lst (P.map pcD)] ∧ P ≠ [] ∧ P.length ≤ 12 ∧ (∀ p ∈ P, p.2.1 ≤ p.2.2) ∧ R .non M
theorem ok_check_pieces {P : Program} {w : World} {K : PySem.W.Frag} {mg : Str → Option Value} {base : Heap} {C f : Addr} {fd : FuncData} (T : Txt K mg) (F : FunD K "check_pieces" "check_pieces" (defArgs s_check_pieces) (defBody s_check_pieces) (defScope s_check_pieces) [] [] f fd) (h_is_piece : CallOk P w K mg base C 2 "is_piece" 1 S_is_piece []) : FnOk P w K mg base CX0 3 f fd ["pieces"] (spD ⟨K, C⟩ 1 S_check_pieces) := by
  have nd := sc_check_pieces.nd
  refine fn_ok 2 1 F sc_check_pieces (fun cdv A outer s H E hr =>
      (qss_cons (qs_if (QW.qt (qw_or (qt_not (qt_val (q_isi .lst (qv 0) rfl T.b_isinstance bb_isinstance rfl T.b_list bb_list))) (qw_or (qt_cmp (c_eqE hr) (qv 0) (q_lst qa_nil)) (qw_or1 (qt_cmp c_gt (q_cb b_len rfl T.b_len bb_len (qa_cons (qv 0) qa_nil)) qi)))))
        (qss_one qs_never)
        qss_nil)
      (qss_one (qs_if (qt_cmp (c_ne hr) (q_lc (own := [("piece", 1)]) nd (qi_list (qv 0)) (blkOk_by (own := [("piece", 1)]) (N := N_check_pieces) (sc := defScope s_check_pieces) (by decide +kernel)) (fun _ _ _ _ _ => (qgw_name (i := 1) nd)) (fun _ _ _ _ _ => (qts_one (qt_not (qt_val (qc h_is_piece hr (by decide) (qa_cons (qv 1) qa_nil)))))) (fun _ _ _ _ _ => (qv 1))) (q_lst qa_nil))
        (qss_one qs_never)
        qss_nil)))) ?_
  rintro ds M R - ⟨P, rfl, ne, len, ok, hR⟩
  have hl : (P.map pcD).length < sizeLine := Nat.lt_of_le_of_lt (by rw [List.length_map]; exact len) (show 12 < sizeLine by decide)
  have hne : P.map pcD ≠ [] := fun z => ne (List.map_eq_nil_iff.mp z)
  walk_at "w"
  refine (f_eqE2 hne).mpr ?_
  walk_at "w"
  refine ⟨fun h => absurd h (by rw [List.length_map]; omega), fun _ => ?_⟩
  refine mf_list (fun _ => false) (fun d => d) (P.map pcD) (fun F z => by walk_at "w"; exact z) hl (fun _ _ z => by cases z) ?_ ?_
  · intro j d pp acc P1 Q hd hpp hP hQ
    obtain ⟨p, hp, rfl⟩ := List.mem_map.mp (List.mem_of_getElem? hd)
    walk_at "w"
    refine ⟨p, rfl, ok p hp, ?_⟩
    walk_at "w"
    exact hQ rfl
  have e : (((P.map pcD).filter fun _ => false).map fun d => d) = [] := by simp
  rw [e]
  refine eqG_self (d := .lst []) rfl ?_
  walk_at "w"
  exact fin_pure hR
abbrev N_common_divisor : List Str := ["one", "other"]
theorem sc_common_divisor : FnScope N_common_divisor ["one", "other"] (defScope s_common_divisor) := ⟨rfl, rfl, rfl, by decide +kernel, rfl, by decide +kernel, by decide +kernel⟩
def S_common_divisor : DSp := fun ds M R _ => ∃ a b, ds = [.int a, .int b] ∧ R (.int (gcdI a b)) M
theorem gcd_step (x y : Nat) : Nat.gcd x y = Nat.gcd y (x % y) := by rw [Nat.gcd_comm, Nat.gcd_rec, Nat.gcd_comm]
theorem abs_nat (a : Int) : (if a < 0 then -a else a) = (a.natAbs : Int) := by split <;> omega
theorem ok_common_divisor {P : Program} {w : World} {K : PySem.W.Frag} {mg : Str → Option Value} {base : Heap} {C f : Addr} {fd : FuncData} (T : Txt K mg) (F : FunD K "common_divisor" "common_divisor" (defArgs s_common_divisor) (defBody s_common_divisor) (defScope s_common_divisor) [] [] f fd)  : FnOk P w K mg base CX0 1 f fd ["one", "other"] (spD ⟨K, C⟩ 2 S_common_divisor) := by
  have nd := sc_common_divisor.nd
  refine fn_ok 2 2 F sc_common_divisor (fun cdv A outer s H E hr =>
      (qss_cons (qs_par (i := 0) (j := 1) nd (qa_cons (q_cb b_abs rfl T.b_abs bb_abs (qa_cons (qv 0) qa_nil)) (qa_cons (q_cb b_abs rfl T.b_abs bb_abs (qa_cons (qv 1) qa_nil)) qa_nil)))
      (qss_cons (qs_while (qt_cmp c_gt (qv 1) qi)
        (qss_one (qs_par (i := 0) (j := 1) nd (qa_cons (qv 1) (qa_cons (q_mod (qv 0) (qv 1)) qa_nil)))))
      (qss_one (qs_ret (qv 0)))))) ?_
  rintro ds M R - ⟨a, b, rfl, hR⟩
  walk_at "w"
  refine vWhile_of (fun m γ M' => M' = M ∧ ∃ x : Nat, γ = [some (.int x), some (.int m)] ∧ (Nat.gcd x m : Int) = gcdI a b) ⟨b.natAbs, rfl, a.natAbs, ?_, rfl⟩ ?_
  · rw [abs_nat, abs_nat]
  · rintro m γ' _ ⟨rfl, x, rfl, hg⟩
    walk_at "w"
    refine ⟨fun hm => ⟨by omega, x % m, Nat.mod_lt _ (by omega), m, ?_, ?_⟩, fun hm => ?_⟩
    · rw [Int.natCast_emod]
    · rw [← hg, gcd_step x m]
    · have : m = 0 := by omega
      subst this
      rw [Nat.gcd_zero_right] at hg
      rw [hg]
      exact fin_pure hR
abbrev N_fraction : List Str := ["top", "bottom", "common"]
theorem sc_fraction : FnScope N_fraction ["top", "bottom"] (defScope s_fraction) := ⟨rfl, rfl, rfl, by decide +kernel, rfl, by decide +kernel, by decide +kernel⟩
def S_fraction : DSp := fun ds M R _ => ∃ p q : Int, ds = [.int p, .int q] ∧ 1 ≤ q ∧ Sm 9000 q ∧ R (.tup [.int (fr p q).1, .int (fr p q).2]) M
theorem ok_fraction {P : Program} {w : World} {K : PySem.W.Frag} {mg : Str → Option Value} {base : Heap} {C f : Addr} {fd : FuncData} (T : Txt K mg) (F : FunD K "fraction" "fraction" (defArgs s_fraction) (defBody s_fraction) (defScope s_fraction) [] [] f fd) (h_common_divisor : CallOk P w K mg base C 1 "common_divisor" 2 S_common_divisor []) : FnOk P w K mg base CX0 2 f fd ["top", "bottom"] (spD ⟨K, C⟩ 2 S_fraction) := by
  have nd := sc_fraction.nd
  refine fn_ok 3 2 F sc_fraction (fun cdv A outer s H E hr =>
      (qss_cons (qs_if (qt_cmp c_lt (qv 1) qi)
        (qss_one (qs_par (i := 0) (j := 1) nd (qa_cons (q_neg (qv 0)) (qa_cons (q_neg (qv 1)) qa_nil))))
        qss_nil)
      (qss_cons (qs_set (i := 2) nd (qc h_common_divisor hr (by decide) (qa_cons (qv 0) (qa_cons (qv 1) qa_nil))))
      (qss_one (qs_ret (q_tup (qa_cons (q_div (qv 0) (qv 2)) (qa_cons (q_div (qv 1) (qv 2)) qa_nil)))))))) ?_
  rintro ds M R - ⟨p, q, rfl, hq, sq, hR⟩
  have hc : ∀ i, CD i (gcdI p q) := fun i => cd_ok (gcdI_pos hq) (sq.le (Int.le_of_lt (gcdI_pos hq)) (gcdI_le hq)) (by decide)
  walk_at "w"
  refine ⟨fun z => by omega, fun _ => ⟨_, _, rfl, ?_⟩⟩
  walk_at "w"
  exact ⟨hc _, hc _, fin_pure hR⟩
abbrev N_check_whole : List Str := ["value", "least"]
theorem sc_check_whole : FnScope N_check_whole ["value", "least"] (defScope s_check_whole) := ⟨rfl, rfl, rfl, by decide +kernel, rfl, by decide +kernel, by decide +kernel⟩
def S_check_whole : DSp := fun ds M R _ => ∃ i, (ds = [.int i, .non] ∨ ∃ l, ds = [.int i, .int l] ∧ l ≤ i) ∧ R .non M
theorem ok_check_whole {P : Program} {w : World} {K : PySem.W.Frag} {mg : Str → Option Value} {base : Heap} {C f : Addr} {fd : FuncData} (T : Txt K mg) (F : FunD K "check_whole" "check_whole" (defArgs s_check_whole) (defBody s_check_whole) (defScope s_check_whole) [.non] [] f fd) (h_is_whole : CallOk P w K mg base C 1 "is_whole" 1 S_is_whole []) : FnOk P w K mg base CX0 2 f fd ["value", "least"] (spD ⟨K, C⟩ 2 S_check_whole) := by
  have nd := sc_check_whole.nd
  refine fn_ok 2 2 F sc_check_whole (fun cdv A outer s H E hr =>
      (qss_one (qs_if (QW.qt (qw_or (qt_not (qt_val (qc h_is_whole hr (by decide) (qa_cons (qv 0) qa_nil)))) (qw_or1 (QW.qt (qw_and (qt_notN (qv 1)) (qw_and1 (qt_cmp c_lt (qv 0) (qv 1))))))))
        (qss_one qs_never)
        qss_nil))) ?_
  rintro ds M R - ⟨i, h | ⟨l, rfl, hl⟩, hR⟩
  · subst h
    walk_at "v"
    refine ⟨_, rfl, rfl, ?_⟩
    walk_at "v"
    exact fin_pure hR
  · walk_at "v"
    refine ⟨_, rfl, rfl, ?_⟩
    walk_at "v"
    exact ⟨fun h => by omega, fun _ => fin_pure hR⟩
abbrev N_Line___call__ : List Str := ["self", "n"]
theorem sc_Line___call__ : FnScope N_Line___call__ ["self", "n"] (defScope s_Line___call__) := ⟨rfl, rfl, rfl, by decide +kernel, rfl, by decide +kernel, by decide +kernel⟩
def S_Line___call__ : DSp := fun ds M R _ => ∃ t p o n, ds = [.ln t p o, .int n] ∧ IntMulOk t n ∧ CD (t * n + p) o ∧ R (.int (lnV t p o n)) M
theorem ok_Line___call__ {P : Program} {w : World} {K : PySem.W.Frag} {mg : Str → Option Value} {base : Heap} {C f : Addr} {fd : FuncData} (T : Txt K mg) (F : FunD K "__call__" "Line.__call__" (defArgs s_Line___call__) (defBody s_Line___call__) (defScope s_Line___call__) [] [] f fd) (h_check_whole_1 : CallOk P w K mg base C 2 "check_whole" 2 S_check_whole [.non]) (hp_times : POk P w K mg base C 1 "times" S_Line_times) (hp_plus : POk P w K mg base C 1 "plus" S_Line_plus) (hp_over : POk P w K mg base C 1 "over" S_Line_over) : FnOk P w K mg base CX0 3 f fd ["self", "n"] (spD ⟨K, C⟩ 2 S_Line___call__) := by
  have nd := sc_Line___call__.nd
  refine fn_ok 2 2 F sc_Line___call__ (fun cdv A outer s H E hr =>
      (qss_cons (qs_expr (qc h_check_whole_1 hr (by decide) (qa_cons (qv 1) qa_nil)))
      (qss_one (qs_ret (q_div (q_add (q_mul (q_prop hp_times hr (by decide) (qv 0)) (qv 1)) (q_prop hp_plus hr (by decide) (qv 0))) (q_prop hp_over hr (by decide) (qv 0))))))) ?_
  rintro ds M R - ⟨t, p, o, n, rfl, hm, hd, hR⟩
  walk_at "w"
  refine ⟨_, .inl rfl, ?_⟩
  walk_at "w"
  refine ⟨_, _, _, rfl, ?_⟩
  walk_at "w"
  refine ⟨hm, _, _, _, rfl, ?_⟩
  walk_at "w"
  refine ⟨_, _, _, rfl, ?_⟩
  walk_at "w"
  exact ⟨hd, fin_pure hR⟩
abbrev N_lowered : List Str := ["way", "times", "plus", "over", "top", "slope", "weight"]
theorem sc_lowered : FnScope N_lowered ["way"] (defScope s_lowered) := ⟨rfl, rfl, rfl, by decide +kernel, rfl, by decide +kernel, by decide +kernel⟩
def qsD (q : Qs) : D := .tup [.int q.t, .int q.p, .int q.o, .int q.L, .int q.s, .int q.w]
def S_lowered : DSp := fun ds M R _ => ∃ q : Qs, ds = [wyD q] ∧ R (qsD (lowQ q.n)) M
theorem ok_lowered {P : Program} {w : World} {K : PySem.W.Frag} {mg : Str → Option Value} {base : Heap} {C f : Addr} {fd : FuncData} (T : Txt K mg) (F : FunD K "lowered" "lowered" (defArgs s_lowered) (defBody s_lowered) (defScope s_lowered) [] [] f fd)  : FnOk P w K mg base CX0 1 f fd ["way"] (spD ⟨K, C⟩ 1 S_lowered) := by
  have nd := sc_lowered.nd
  refine fn_ok 7 1 F sc_lowered (fun cdv A outer s H E hr =>
      (qss_cons (qs_asg (qv 0) (qg_tup (n := 6) (qgs_cons (qg_name (i := 1) nd) (qgs_cons (qg_name (i := 2) nd) (qgs_cons (qg_name (i := 3) nd) (qgs_cons (qg_name (i := 4) nd) (qgs_cons (qg_name (i := 5) nd) (qgs_cons (qg_name (i := 6) nd) qgs_nil))))))))
      (qss_cons (qs_if (qt_cmp c_gt (qv 6) qi)
        (qss_one (qs_ret (q_tup (qa_cons (qv 3) (qa_cons (q_sub (q_add (q_sub (qv 3) (qv 2)) (qv 1)) qi) (qa_cons (qv 1) (qa_cons (q_sub (qv 4) qi) (qa_cons (qv 6) (qa_cons (qv 5) qa_nil)))))))))
        qss_nil)
      (qss_one (qs_ret (q_tup (qa_cons (qv 3) (qa_cons (q_sub (q_sub (qv 3) (qv 2)) qi) (qa_cons (qv 1) (qa_cons (q_sub (qv 4) qi) (qa_cons (qv 6) (qa_cons (qv 5) qa_nil)))))))))))) ?_
  rintro ds M R - ⟨q, rfl, hR⟩
  simp only [wyD]
  walk_at "w"
  unfold lowQ at hR
  refine ⟨fun h => ?_, fun h => ?_⟩
  · rw [if_pos (show q.n.w > 0 from h)] at hR
    exact fin_pure hR
  · rw [if_neg (show ¬ q.n.w > 0 from h)] at hR
    exact fin_pure hR
abbrev N_raised : List Str := ["value", "place", "fixed", "last", "way", "times", "plus", "over", "top", "slope", "weight"]
theorem sc_raised : FnScope N_raised ["value", "place", "fixed", "last", "way"] (defScope s_raised) := ⟨rfl, rfl, rfl, by decide +kernel, rfl, by decide +kernel, by decide +kernel⟩
def S_raised : DSp := fun ds M R _ => ∃ (q : Qs) (v y : Int), ds = [.int v, .int y, .int q.fx, .int q.L, wyD q] ∧ QOk q ∧ ¬ Brk q.n ∧ Ans (lowQ q.n) v y ∧ R (.tup [.int (raiM q.n q.fx v y).1, .int (raiM q.n q.fx v y).2]) M
theorem ok_raised {P : Program} {w : World} {K : PySem.W.Frag} {mg : Str → Option Value} {base : Heap} {C f : Addr} {fd : FuncData} (T : Txt K mg) (F : FunD K "raised" "raised" (defArgs s_raised) (defBody s_raised) (defScope s_raised) [] [] f fd)  : FnOk P w K mg base CX0 1 f fd ["value", "place", "fixed", "last", "way"] (spD ⟨K, C⟩ 5 S_raised) := by
  have nd := sc_raised.nd
  refine fn_ok 11 5 F sc_raised (fun cdv A outer s H E hr =>
      (qss_cons (qs_asg (qv 4) (qg_tup (n := 6) (qgs_cons (qg_name (i := 5) nd) (qgs_cons (qg_name (i := 6) nd) (qgs_cons (qg_name (i := 7) nd) (qgs_cons (qg_name (i := 8) nd) (qgs_cons (qg_name (i := 9) nd) (qgs_cons (qg_name (i := 10) nd) qgs_nil))))))))
      (qss_cons (qs_if (qt_cmp c_gt (qv 10) qi)
        (qss_cons (qs_if (qt_cmp c_le (q_add (qv 0) (qv 10)) qi)
          (qss_one (qs_ret (q_tup (qa_cons (qv 2) (qa_cons qi qa_nil)))))
          qss_nil)
        (qss_one (qs_ret (q_tup (qa_cons (q_add (q_add (qv 2) (qv 0)) (qv 10)) (qa_cons (q_div (q_sub (q_add (q_sub (q_add (q_mul (qv 7) (qv 1)) (qv 7)) (qv 6)) (qv 5)) qi) (qv 5)) qa_nil))))))
        qss_nil)
      (qss_cons (qs_if (qt_cmp c_ge (q_add (q_mul (qv 9) (qv 3)) (q_mul (qv 10) (qv 8))) (qv 0))
        (qss_one (qs_ret (q_tup (qa_cons (q_add (q_add (qv 2) (q_mul (qv 9) (qv 3))) (q_mul (qv 10) (qv 8))) (qa_cons (qv 3) qa_nil)))))
        qss_nil)
      (qss_one (qs_ret (q_tup (qa_cons (q_add (qv 2) (qv 0)) (qa_cons (q_div (q_sub (q_sub (q_add (q_mul (qv 7) (qv 1)) (qv 7)) (qv 6)) qi) (qv 5)) qa_nil))))))))) ?_
  rintro ds M R - ⟨q, v, y, rfl, ok, hb, A, hR⟩
  have N := q.nm ok.o0 ok.L0
  have ht : q.n.top ≠ 0 := fun z => hb (.inl z)
  have tp := t_pos N ht
  have l := ok.low hb
  have sy : Sm 3000 y := l.1.sL.le A.x0 A.xL
  have st : Sm 3000 q.n.t := ok.so.le N.t0 (Int.le_of_lt N.t1)
  have stop : Sm 3000 q.n.top := ok.sL.le N.top0 N.topL
  have ss := ok.sn
  have sw := ok.sw
  have mo : IntMulOk q.n.o y := mul_ok ok.so sy (by decide)
  have m1 : IntMulOk q.n.s q.L := mul_ok ss ok.sL (by decide)
  have m2 : IntMulOk q.n.w q.n.top := mul_ok sw stop (by decide)
  have cd : ∀ i, CD i q.n.t := fun i => cd_ok tp st (by decide)
  simp only [wyD]
  walk_at "w"
  unfold raiM at hR
  refine ⟨fun h => ⟨fun h2 => ?_, fun h2 => ⟨mo, cd _, ?_⟩⟩, fun h => ⟨m1, m2, fun h2 => ⟨m1, m2, ?_⟩, fun h2 => ⟨mo, cd _, ?_⟩⟩⟩
  · rw [if_pos (show q.n.w > 0 from h), if_pos h2] at hR
    exact fin_pure hR
  · rw [if_pos (show q.n.w > 0 from h), if_neg h2] at hR
    exact fin_pure hR
  · rw [if_neg (show ¬ q.n.w > 0 from h), if_pos (show q.n.s * q.n.L + q.n.w * q.n.top ≥ v from h2)] at hR
    exact fin_pure hR
  · rw [if_neg (show ¬ q.n.w > 0 from h), if_neg (show ¬ q.n.s * q.n.L + q.n.w * q.n.top ≥ v from h2)] at hR
    exact fin_pure hR
abbrev N_greatest : List Str := ["times", "plus", "over", "last", "slope", "weight", "path", "fixed", "top", "way", "place", "value"]
theorem sc_greatest : FnScope N_greatest ["times", "plus", "over", "last", "slope", "weight"] (defScope s_greatest) := ⟨rfl, rfl, rfl, by decide +kernel, rfl, by decide +kernel, by decide +kernel⟩
structure Q0 (q : Qs) : Prop where
  o0 : 0 < q.o
  L0 : 0 ≤ q.L
  st : Sm 3000 q.t
  sp : Sm 3000 q.p
  so : Sm 3000 q.o
  sL : Sm 3000 q.L
  ss : Sm 3000 q.s
  sw : Sm 3000 q.w
def S_greatest : DSp := fun ds M R _ => ∃ q : Qs, ds = [.int q.t, .int q.p, .int q.o, .int q.L, .int q.s, .int q.w] ∧ Q0 q ∧ ∀ v x, Ans q v x → R (.tup [.int v, .int x]) M
theorem ok_greatest {P : Program} {w : World} {K : PySem.W.Frag} {mg : Str → Option Value} {base : Heap} {C f : Addr} {fd : FuncData} (T : Txt K mg) (F : FunD K "greatest" "greatest" (defArgs s_greatest) (defBody s_greatest) (defScope s_greatest) [] [] f fd) (h_lowered : CallOk P w K mg base C 1 "lowered" 1 S_lowered []) (h_raised : CallOk P w K mg base C 1 "raised" 5 S_raised []) : FnOk P w K mg base CX0 2 f fd ["times", "plus", "over", "last", "slope", "weight"] (spD ⟨K, C⟩ 6 S_greatest) := by
  have nd := sc_greatest.nd
  refine fn_ok 12 6 F sc_greatest (fun cdv A outer s H E hr =>
      (qss_cons (qs_set (i := 6) nd (q_lstO qa_nil))
      (qss_cut (qs_while (qt_val qb)
        (qss_cons (qs_set (i := 7) nd (q_mul (qv 5) (q_div (qv 1) (qv 2))))
        (qss_cons (qs_augG ip_add (i := 4) nd (q_mul (qv 5) (q_div (qv 0) (qv 2))))
        (qss_cons (qs_par (i := 0) (j := 1) nd (qa_cons (q_mod (qv 0) (qv 2)) (qa_cons (q_mod (qv 1) (qv 2)) qa_nil)))
        (qss_cons (qs_set (i := 8) nd (q_div (q_add (q_mul (qv 0) (qv 3)) (qv 1)) (qv 2)))
        (qss_cut (qs_if (QW.qt (qw_or (qt_cmp (c_eq hr) (qv 8) qi) (qw_or (qt_cmp (c_eq hr) (qv 5) qi) (qw_or (QW.qt (qw_and (qt_cmp c_ge (qv 4) qi) (qw_and1 (qt_cmp c_gt (qv 5) qi)))) (qw_or1 (QW.qt (qw_and (qt_cmp c_le (qv 4) qi) (qw_and1 (qt_cmp c_lt (qv 5) qi)))))))))
          (qss_one qs_break)
          qss_nil)
        (qss_cons (qs_set (i := 9) nd (q_tup (qa_cons (qv 0) (qa_cons (qv 1) (qa_cons (qv 2) (qa_cons (qv 8) (qa_cons (qv 4) (qa_cons (qv 5) qa_nil))))))))
        (qss_cons (qs_expr (q_append (qv 6) (q_tup (qa_cons (qv 7) (qa_cons (qv 3) (qa_cons (qv 9) qa_nil))))))
        (qss_one (qs_asg (qc h_lowered hr (by decide) (qa_cons (qv 9) qa_nil)) (qg_tup (n := 6) (qgs_cons (qg_name (i := 0) nd) (qgs_cons (qg_name (i := 1) nd) (qgs_cons (qg_name (i := 2) nd) (qgs_cons (qg_name (i := 3) nd) (qgs_cons (qg_name (i := 4) nd) (qgs_cons (qg_name (i := 5) nd) qgs_nil)))))))))))))))))
      (qss_cut (qs_set (i := 10) nd (q_ite (QW.qt (qw_or (qt_cmp c_gt (qv 4) qi) (qw_or1 (QW.qt (qw_and (qt_cmp (c_eq hr) (qv 4) qi) (qw_and1 (qt_cmp c_gt (qv 5) qi))))))) (qv 3) qi))
      (qss_cons (qs_set (i := 11) nd (q_add (q_add (qv 7) (q_mul (qv 4) (qv 10))) (q_mul (qv 5) (q_div (q_add (q_mul (qv 0) (qv 10)) (qv 1)) (qv 2)))))
      (qss_cons (qs_while (qt_cmp (c_ne hr) (qv 6) (q_lst qa_nil))
        (qss_cons (qs_asg (q_pop (qv 6)) (qg_tup (n := 3) (qgs_cons (qg_name (i := 7) nd) (qgs_cons (qg_name (i := 3) nd) (qgs_cons (qg_name (i := 9) nd) qgs_nil)))))
        (qss_one (qs_asg (qc h_raised hr (by decide) (qa_cons (qv 11) (qa_cons (qv 10) (qa_cons (qv 7) (qa_cons (qv 3) (qa_cons (qv 9) qa_nil)))))) (qg_tup (n := 2) (qgs_cons (qg_name (i := 11) nd) (qgs_cons (qg_name (i := 10) nd) qgs_nil)))))))
      (qss_one (qs_ret (q_tup (qa_cons (qv 11) (qa_cons (qv 10) qa_nil))))))))))) ?_
  rintro ds M R - ⟨Q, rfl, h0, hR⟩
  walk_at "w"
  intro p hp
  refine ⟨fun γ M' => ∃ es q y9, γ = [some (.int q.n.t), some (.int q.n.p), some (.int q.n.o), some (.int q.n.L), some (.int q.n.s), some (.int q.n.w), some (.own p), some (.int q.fx), some (.int q.n.top), y9, none, none] ∧ M' = mset M p (.lst (es.reverse.map peD)) ∧ Pth Q es q ∧ QOk q ∧ Brk q.n, ?_, ?_⟩
  · refine vWhile_of (fun m γ M' => ∃ es q y7 y8 y9, γ = [some (.int q.t), some (.int q.p), some (.int q.o), some (.int q.L), some (.int q.s), some (.int q.w), some (.own p), y7, y8, y9, none, none] ∧ M' = mset M p (.lst (es.reverse.map peD)) ∧ Pth Q es q ∧ QOk q ∧ m = q.o.toNat) ⟨_, [], Q, _, _, _, rfl, rfl, .nil, ⟨h0.o0, h0.L0, h0.st, h0.sp.mono (by decide), h0.so, h0.sL, h0.ss.mono (by decide), h0.sw.mono (by decide), .inl ⟨h0.ss, h0.sw⟩⟩, rfl⟩ ?_
    rintro m γ' _ ⟨es, q, y7, y8, y9, rfl, rfl, P, ok, rfl⟩
    have N := q.nm ok.o0 ok.L0
    have cd : ∀ i, CD i q.o := fun i => cd_ok ok.o0 ok.so (by decide)
    have st : Sm 3000 q.n.t := ok.so.le N.t0 (Int.le_of_lt N.t1)
    walk_at "w"
    refine ⟨cd _, mul_ok ok.sw (ok.sp.div ok.o0) (by decide), cd _, mul_ok ok.sw (ok.st.div ok.o0) (by decide), ok.o0, ok.o0, mul_ok st ok.sL (by decide), cd _, ?_⟩
    have brk : Brk q.n → ∃ es' q' y9', [some (D.int (q.t % q.o)), some (D.int (q.p % q.o)), some (D.int q.o), some (D.int q.L), some (D.int (q.s + q.w * (q.t / q.o))), some (D.int q.w), some (D.own p), some (D.int (q.w * (q.p / q.o))), some (D.int ((q.t % q.o * q.L + q.p % q.o) / q.o)), y9, none, none] =
        [some (D.int q'.n.t), some (D.int q'.n.p), some (D.int q'.n.o), some (D.int q'.n.L), some (D.int q'.n.s), some (D.int q'.n.w), some (D.own p), some (D.int q'.fx), some (D.int q'.n.top), y9', none, none] ∧ mset M p (MO.lst (List.map peD es.reverse)) = mset M p (MO.lst (List.map peD es'.reverse)) ∧ Pth Q es' q' ∧ QOk q' ∧ Brk q'.n := fun b => ⟨es, q, _, rfl, rfl, P, ok, b⟩
    refine ⟨fun γ M2 => γ = [some (.int q.n.t), some (.int q.n.p), some (.int q.o), some (.int q.L), some (.int q.n.s), some (.int q.w), some (.own p), some (.int q.fx), some (.int q.n.top), y9, none, none] ∧ M2 = mset M p (.lst (es.reverse.map peD)) ∧ ¬ Brk q.n, ?_, ?_⟩
    · walk_at "w"
      have nb : ¬ q.n.top = 0 → ¬ q.w = 0 → ¬ (0 ≤ q.n.s ∧ 0 < q.w) → ¬ (q.n.s ≤ 0 ∧ q.w < 0) → ¬ Brk q.n := fun a b c d z => by
        rcases z with z | z | z | z
        · exact a z
        · exact b z
        · exact c z
        · exact d z
      refine ⟨fun h => brk (.inl h), fun h1 => ⟨fun h => brk (.inr (.inl h)), fun h2 => ⟨fun h3 => ⟨fun h4 => brk (.inr (.inr (.inl ⟨h3, h4⟩))), fun h4 => ⟨fun h5 => ⟨fun h6 => brk (.inr (.inr (.inr ⟨h5, h6⟩))), fun h6 => ⟨rfl, nb h1 h2 (fun z => h4 z.2) (fun z => h6 z.2)⟩⟩, fun h5 => ⟨rfl, nb h1 h2 (fun z => h4 z.2) (fun z => h5 z.1)⟩⟩⟩, fun h3 => ⟨fun h5 => ⟨fun h6 => brk (.inr (.inr (.inr ⟨h5, h6⟩))), fun h6 => ⟨rfl, nb h1 h2 (fun z => h3 z.1) (fun z => h6 z.2)⟩⟩, fun h5 => ⟨rfl, nb h1 h2 (fun z => h3 z.1) (fun z => h5 z.1)⟩⟩⟩⟩⟩
    · rintro _ _ ⟨rfl, rfl, nb⟩
      have low := ok.low nb
      walk_at "w"
      refine ⟨?_, ?_⟩
      · rw [List.length_map, List.length_reverse]
        exact Nat.lt_of_le_of_lt (pth_len P) (by decide)
      refine ⟨q, rfl, ?_⟩
      simp only [qsD]
      walk_at "w"
      refine ⟨(lowQ q.n).o.toNat, ?_, q :: es, lowQ q.n, _, _, _, rfl, ?_, .cons P ok nb, low.1, rfl⟩
      · have := low.1.o0; have := low.2; omega
      · rw [← rev_snoc]; rfl
  rintro _ _ ⟨es, q, y9, rfl, rfl, P, ok, b⟩
  have N := q.nm ok.o0 ok.L0
  have cd : ∀ i, CD i q.n.o := fun i => cd_ok ok.o0 ok.so (by decide)
  have st : Sm 3000 q.n.t := ok.so.le N.t0 (Int.le_of_lt N.t1)
  have A0 : Ans q (q.fx + q.n.f (plM q.n)) (plM q.n) := (brk_ans N b).of_n ok.o0
  have spl : Sm 3000 (plM q.n) := ok.sL.le A0.x0 A0.xL
  refine ⟨fun γ M2 => γ = [some (.int q.n.t), some (.int q.n.p), some (.int q.n.o), some (.int q.n.L), some (.int q.n.s), some (.int q.n.w), some (.own p), some (.int q.fx), some (.int q.n.top), y9, some (.int (plM q.n)), none] ∧ M2 = mset M p (.lst (es.reverse.map peD)), ?_, ?_⟩
  · walk_at "w"
    have e1 : (q.n.s > 0 ∨ (q.n.s = 0 ∧ q.n.w > 0)) → plM q.n = q.n.L := fun c => by unfold plM; rw [if_pos c]
    have e2 : ¬ (q.n.s > 0 ∨ (q.n.s = 0 ∧ q.n.w > 0)) → plM q.n = 0 := fun c => by unfold plM; rw [if_neg c]
    refine ⟨fun h => by rw [e1 (.inl h)], fun h => ⟨fun h2 => ⟨fun h3 => by rw [e1 (.inr ⟨h2, h3⟩)], fun h3 => by rw [e2 (by rintro (z | z); exact h z; exact h3 z.2)]⟩, fun h2 => by rw [e2 (by rintro (z | z); exact h z; exact h2 z.1)]⟩⟩
  rintro _ _ ⟨rfl, rfl⟩
  have s1 := ok.sn
  have s2 := ok.sw
  walk_at "w"
  refine ⟨mul_ok s1 spl (by decide), mul_ok st spl (by decide), cd _, mul_ok (a := 6001) (b := 6001) s2 ?_ (by decide), ?_⟩
  · refine Sm.div (Sm.add (a := 6000) (st.mul spl) ?_) ok.o0
    exact (ok.so.le N.p0 (Int.le_of_lt N.p1)).mono (by decide)
  refine vWhile_of (fun m γ M' => ∃ es' q' v x y3 y7 y9, γ = [some (.int q.n.t), some (.int q.n.p), some (.int q.n.o), some (.int y3), some (.int q.n.s), some (.int q.n.w), some (.own p), some (.int y7), some (.int q.n.top), y9, some (.int x), some (.int v)] ∧ M' = mset M p (.lst (es'.reverse.map peD)) ∧ Pth Q es' q' ∧ Ans q' v x ∧ m = es'.length) ⟨_, es, q, _, plM q.n, _, _, _, rfl, rfl, P, ?_, rfl⟩ ?_
  · have e : q.fx + q.n.s * plM q.n + q.n.w * ((q.n.t * plM q.n + q.n.p) / q.n.o) = q.fx + q.n.f (plM q.n) := by unfold Qs.f; omega
    rw [e]
    exact A0
  rintro m γ' _ ⟨es', q', v, x, y3, y7, y9, rfl, rfl, P', A, rfl⟩
  walk_at "w"
  refine eqG_none mset_same (by show cmpL 63 _ = true; exact cmp_pe 61 _) (fun hz => ?_) (fun hz => ?_)
  · have he : es' = [] := by
      cases es' with
      | nil => rfl
      | cons e r => simp at hz
    subst he
    cases P'
    walk_at "w"
    exact fin_drop hp (hR v x A)
  · cases P' with
    | nil => exact absurd rfl hz
    | cons P2 ok2 nb2 =>
      rename_i es2 q2
      walk_at "w"
      rw [← rev_snoc, List.length_append, List.length_singleton, Nat.add_sub_cancel, List.getElem?_append_right (Nat.le_refl _), Nat.sub_self, List.getElem?_cons_zero, List.dropLast_concat]
      simp only [peD]
      walk_at "w"
      refine ⟨q2, v, x, rfl, ok2, nb2, A, ?_⟩
      walk_at "w"
      exact ⟨es2.length, by simp, es2, q2, _, _, _, _, _, rfl, rfl, P2, rai_ans ok2.o0 ok2.L0 nb2 A, rfl⟩
abbrev N_place_of : List Str := ["line", "low", "high", "slope", "weight", "late", "many", "lean", "start", "value", "place"]
theorem sc_place_of : FnScope N_place_of ["line", "low", "high", "slope", "weight", "late"] (defScope s_place_of) := ⟨rfl, rfl, rfl, by decide +kernel, rfl, by decide +kernel, by decide +kernel⟩
def S_place_of : DSp := fun ds M R _ => ∃ (x : Tr) (l h s w : Int) (late : Bool), ds = [trL x, .int l, .int h, .int s, .int w, .bl late] ∧ DOk x l h ∧ Sm 2300 s ∧ Sm 2300 w ∧ ∀ n, IsArg (gq x s w) l h late n → R (.int n) M
theorem ok_place_of {P : Program} {w : World} {K : PySem.W.Frag} {mg : Str → Option Value} {base : Heap} {C f : Addr} {fd : FuncData} (T : Txt K mg) (F : FunD K "place_of" "place_of" (defArgs s_place_of) (defBody s_place_of) (defScope s_place_of) [] [] f fd) (hp_times : POk P w K mg base C 1 "times" S_Line_times) (hp_plus : POk P w K mg base C 1 "plus" S_Line_plus) (h_greatest : CallOk P w K mg base C 2 "greatest" 6 S_greatest []) (hp_over : POk P w K mg base C 1 "over" S_Line_over) : FnOk P w K mg base CX0 3 f fd ["line", "low", "high", "slope", "weight", "late"] (spD ⟨K, C⟩ 6 S_place_of) := by
  have nd := sc_place_of.nd
  refine fn_ok 11 6 F sc_place_of (fun cdv A outer s H E hr =>
      (qss_cons (qs_set (i := 6) nd (q_add (q_sub (qv 2) (qv 1)) qi))
      (qss_cut (qs_set (i := 7) nd (q_ite (qt_val (qv 5)) qi (q_neg qi)))
      (qss_cons (qs_set (i := 8) nd (q_add (q_mul (q_prop hp_times hr (by decide) (qv 0)) (qv 1)) (q_prop hp_plus hr (by decide) (qv 0))))
      (qss_cons (qs_asg (qc h_greatest hr (by decide) (qa_cons (q_prop hp_times hr (by decide) (qv 0)) (qa_cons (qv 8) (qa_cons (q_prop hp_over hr (by decide) (qv 0)) (qa_cons (q_sub (qv 2) (qv 1)) (qa_cons (q_add (q_mul (qv 3) (qv 6)) (qv 7)) (qa_cons (q_mul (qv 4) (qv 6)) qa_nil))))))) (qg_tup (n := 2) (qgs_cons (qg_name (i := 9) nd) (qgs_cons (qg_name (i := 10) nd) qgs_nil))))
      (qss_one (qs_ret (q_add (qv 1) (qv 10))))))))) ?_
  rintro ds M R - ⟨x, l, h, s, w, late, rfl, d, ss, sw, hR⟩
  have hlh := d.lh
  have sN : Sm 502 (h - l + 1) := Sm.add (a := 501) (Sm.sub d.sh d.sl) ((show Sm 1 1 by decide).mono (by decide))
  simp only [trL]
  walk_at "w"
  refine ⟨fun γ M2 => γ = [some (.ln x.1 x.2.1 x.2.2), some (.int l), some (.int h), some (.int s), some (.int w), some (.bl late), some (.int (h - l + 1)), some (.int (if late then 1 else -1)), none, none, none] ∧ M2 = M, ?_, ?_⟩
  · walk_at "w"
    cases late
    · exact ⟨fun z => (nomatch z), fun _ => rfl⟩
    · exact ⟨fun _ => rfl, fun z => (nomatch z)⟩
  rintro _ _ ⟨rfl, rfl⟩
  walk_at "w"
  refine ⟨_, _, _, rfl, ?_⟩
  walk_at "w"
  refine ⟨mul_ok d.st d.sl (by decide), ?_⟩
  refine ⟨_, _, _, rfl, ?_⟩
  walk_at "w"
  refine ⟨_, _, _, rfl, ?_⟩
  walk_at "w"
  refine ⟨_, _, _, rfl, ?_⟩
  walk_at "w"
  have e1 : Sm 1 (if late then (1 : Int) else -1) := by cases late <;> decide
  refine ⟨mul_ok ss sN (by decide), mul_ok sw sN (by decide), qOf x l h (s * (h - l + 1) + (if late then 1 else -1)) (w * (h - l + 1)), rfl, ⟨by show 0 < x.2.2; have := d.o1; omega, by show 0 ≤ h - l; omega, d.st.mono (by decide), (Sm.add (a := 1000) (d.st.mul d.sl) (d.sp.mono (by decide))).mono (by decide), d.so.mono (by decide), (Sm.sub d.sh d.sl).mono (by decide), (Sm.add (a := 2802) (ss.mul sN) (e1.mono (by decide))).mono (by decide), (sw.mul sN).mono (by decide)⟩, fun v y A => ?_⟩
  walk_at "w"
  exact fin_pure (hR _ (place_of_ok late hlh A))
abbrev N_low_slope : List Str := ["line", "low", "high", "found", "top", "bottom", "later", "first"]
theorem sc_low_slope : FnScope N_low_slope ["line", "low", "high"] (defScope s_low_slope) := ⟨rfl, rfl, rfl, by decide +kernel, rfl, by decide +kernel, by decide +kernel⟩
def S_low_slope : DSp := fun ds M R _ => ∃ (x : Tr) (l h : Int), ds = [trL x, .int l, .int h] ∧ DOk x l h ∧ l < h ∧ ∀ p q, LowS (vl x) l h p q → R (.tup [.int p, .int q]) M
theorem lowP_sm {x : Tr} {l h p q : Int} (d : DOk x l h) (P : LowP (vl x) l h p q) : Sm 1003 p ∧ Sm 501 q := by
  have q1 := P.q1
  have sq : Sm 501 q := (Sm.sub d.sh d.sl).le (by omega) P.qN
  refine ⟨?_, sq⟩
  obtain ⟨a, b, a1, ab, b1, e⟩ := P.ex
  have s1 := d.num a1 (by omega) (by omega) b1
  -- p (b - a) = q (..): p is a part of (..)
  have hd : q ∣ p * (b - a) := ⟨_, e⟩
  have hq := cop_dvd P.cop hd
  obtain ⟨k, hk⟩ := hq
  rw [hk, Int.mul_left_comm] at e
  have e2 : p * k = vl x b - vl x a - 1 := Int.eq_of_mul_eq_mul_left (show q ≠ 0 by omega) e
  have k1 : 1 ≤ k := by
    rcases Int.lt_or_le 0 k with c | c
    · omega
    · have := Int.mul_nonpos_of_nonneg_of_nonpos (show 0 ≤ q by omega) c
      omega
  unfold Sm at s1 ⊢
  rw [← e2, Int.natAbs_mul] at s1
  have : p.natAbs * 1 ≤ p.natAbs * k.natAbs := Nat.mul_le_mul_left _ (by omega)
  omega
theorem ok_low_slope {P : Program} {w : World} {K : PySem.W.Frag} {mg : Str → Option Value} {base : Heap} {C f : Addr} {fd : FuncData} (T : Txt K mg) (F : FunD K "low_slope" "low_slope" (defArgs s_low_slope) (defBody s_low_slope) (defScope s_low_slope) [] [] f fd) (h_fraction : CallOk P w K mg base C 2 "fraction" 2 S_fraction []) (h_callO : COk P w K mg base C 3 2 S_Line___call__) (h_place_of : CallOk P w K mg base C 3 "place_of" 6 S_place_of []) : FnOk P w K mg base CX0 4 f fd ["line", "low", "high"] (spD ⟨K, C⟩ 3 S_low_slope) := by
  have nd := sc_low_slope.nd
  refine fn_ok 8 3 F sc_low_slope (fun cdv A outer s H E hr =>
      (qss_cons (qs_set (i := 3) nd (qc h_fraction hr (by decide) (qa_cons (q_sub (q_sub (q_callO h_callO hr (by decide) (qv 0) (qa_cons (qv 2) qa_nil)) (q_callO h_callO hr (by decide) (qv 0) (qa_cons (qv 1) qa_nil))) qi) (qa_cons (q_sub (qv 2) (qv 1)) qa_nil))))
      (qss_one (qs_while (qt_val qb)
        (qss_cons (qs_asg (qv 3) (qg_tup (n := 2) (qgs_cons (qg_name (i := 4) nd) (qgs_cons (qg_name (i := 5) nd) qgs_nil))))
        (qss_cons (qs_set (i := 6) nd (qc h_place_of hr (by decide) (qa_cons (qv 0) (qa_cons (qv 1) (qa_cons (qv 2) (qa_cons (q_neg (qv 4)) (qa_cons (qv 5) (qa_cons qb qa_nil))))))))
        (qss_cons (qs_set (i := 7) nd (qc h_place_of hr (by decide) (qa_cons (qv 0) (qa_cons (qv 1) (qa_cons (qv 2) (qa_cons (qv 4) (qa_cons (q_neg (qv 5)) (qa_cons qb qa_nil))))))))
        (qss_cons (qs_if (qt_cmp c_le (q_mul (qv 5) (q_sub (q_sub (q_callO h_callO hr (by decide) (qv 0) (qa_cons (qv 6) qa_nil)) (q_callO h_callO hr (by decide) (qv 0) (qa_cons (qv 7) qa_nil))) qi)) (q_mul (qv 4) (q_sub (qv 6) (qv 7))))
          (qss_one (qs_ret (qv 3)))
          qss_nil)
        (qss_one (qs_set (i := 3) nd (qc h_fraction hr (by decide) (qa_cons (q_sub (q_sub (q_callO h_callO hr (by decide) (qv 0) (qa_cons (qv 6) qa_nil)) (q_callO h_callO hr (by decide) (qv 0) (qa_cons (qv 7) qa_nil))) qi) (qa_cons (q_sub (qv 6) (qv 7)) qa_nil))))))))))))) ?_
  rintro ds M R - ⟨x, l, h, rfl, d, hl, hR⟩
  have cd : ∀ i, CD i x.2.2 := fun i => cd_ok (by have := d.o1; omega) d.so (by decide)
  have mt : ∀ n, l ≤ n → n ≤ h → IntMulOk x.1 n := fun n a b => mul_ok d.st (sm_between d.sl d.sh a b) (by decide)
  have o1 := d.o1
  simp only [trL]
  walk_at "w"
  refine ⟨_, _, _, _, rfl, mt h (by omega) (by omega), cd _, ?_⟩
  walk_at "w"
  refine ⟨_, _, _, _, rfl, mt l (by omega) (by omega), cd _, ?_⟩
  walk_at "w"
  refine ⟨_, _, rfl, by omega, (Sm.sub d.sh d.sl).mono (by decide), ?_⟩
  walk_at "w"
  have slp := slp_self (x := x) (l := l) (h := h) o1
  refine vWhile_of (fun m γ M' => M' = M ∧ ∃ p q y4 y5 y6 y7, LowP (vl x) l h p q ∧ m = lowM (h - l).toNat x.1 x.2.2 p q ∧ γ = [some (.ln x.1 x.2.1 x.2.2), some (.int l), some (.int h), some (.tup [.int p, .int q]), y4, y5, y6, y7]) ⟨_, rfl, _, _, _, _, _, _, low_start hl, rfl, rfl⟩ ?_
  rintro m γ' _ ⟨rfl, p, q, y4, y5, y6, y7, P, rfl, rfl⟩
  obtain ⟨sp, sq⟩ := lowP_sm d P
  walk_at "w"
  refine ⟨x, l, h, _, _, false, rfl, d, sp.neg.mono (by decide), sq.mono (by decide), fun b B => ?_⟩
  walk_at "w"
  refine ⟨x, l, h, _, _, false, rfl, d, sp.mono (by decide), sq.neg.mono (by decide), fun a A => ?_⟩
  walk_at "w"
  refine ⟨_, _, _, _, rfl, mt b B.l0 B.h0, cd _, ?_⟩
  walk_at "w"
  refine ⟨_, _, _, _, rfl, mt a A.l0 A.h0, cd _, ?_⟩
  walk_at "w"
  have sn := d.num A.l0 A.h0 B.l0 B.h0
  have sba : Sm 501 (b - a) := Sm.sub (sm_between d.sl d.sh B.l0 B.h0) (sm_between d.sl d.sh A.l0 A.h0)
  refine ⟨mul_ok sq sn (by decide), mul_ok sp sba (by decide), fun c => ?_, fun c => ?_⟩
  · exact fin_pure (hR p q (low_done P B A c))
  · obtain ⟨ab, P', up⟩ := low_next o1 P B A c
    refine ⟨_, _, _, _, rfl, mt b B.l0 B.h0, cd _, ?_⟩
    walk_at "w"
    refine ⟨_, _, _, _, rfl, mt a A.l0 A.h0, cd _, ?_⟩
    walk_at "w"
    refine ⟨_, _, rfl, by omega, sba.mono (by decide), ?_⟩
    walk_at "w"
    refine ⟨_, lowM_lt o1 P.q1 (by have := P.qN; omega) P'.q1 (by have := P'.qN; omega) up (P'.lt slp), _, _, _, _, _, _, P', rfl, rfl⟩
abbrev N_Line___neg__ : List Str := ["self"]
theorem sc_Line___neg__ : FnScope N_Line___neg__ ["self"] (defScope s_Line___neg__) := ⟨rfl, rfl, rfl, by decide +kernel, rfl, by decide +kernel, by decide +kernel⟩
def S_Line___neg__ : DSp := fun ds M R _ => ∃ t p o, ds = [.ln t p o] ∧ 1 ≤ o ∧ R (.ln (-t) (o - 1 - p) o) M
theorem ok_Line___neg__ {P : Program} {w : World} {K : PySem.W.Frag} {mg : Str → Option Value} {base : Heap} {C f : Addr} {fd : FuncData} (T : Txt K mg) (F : FunD K "__neg__" "Line.__neg__" (defArgs s_Line___neg__) (defBody s_Line___neg__) (defScope s_Line___neg__) [] [] f fd) (h_Line : LMk P w K mg base C 3) (hp_over : POk P w K mg base C 1 "over" S_Line_over) (hp_plus : POk P w K mg base C 1 "plus" S_Line_plus) (hp_times : POk P w K mg base C 1 "times" S_Line_times) : FnOk P w K mg base CX0 5 f fd ["self"] (spD ⟨K, C⟩ 1 S_Line___neg__) := by
  have nd := sc_Line___neg__.nd
  refine fn_ok 1 1 F sc_Line___neg__ (fun cdv A outer s H E hr =>
      (qss_one (qs_ret (q_line h_Line hr (by decide) (qa_cons (q_neg (q_prop hp_times hr (by decide) (qv 0))) (qa_cons (q_sub (q_sub (q_prop hp_over hr (by decide) (qv 0)) qi) (q_prop hp_plus hr (by decide) (qv 0))) (qa_cons (q_prop hp_over hr (by decide) (qv 0)) qa_nil))))))) ?_
  rintro ds M R - ⟨t, p, o, rfl, ho, hR⟩
  walk_at "w"
  refine ⟨_, _, _, rfl, ?_⟩
  walk_at "w"
  refine ⟨_, _, _, rfl, ?_⟩
  walk_at "w"
  refine ⟨_, _, _, rfl, ?_⟩
  walk_at "w"
  refine ⟨_, _, _, rfl, ?_⟩
  walk_at "w"
  exact ⟨ho, fin_pure hR⟩
abbrev N_slopes : List Str := ["line", "low", "high", "top", "bottom"]
theorem sc_slopes : FnScope N_slopes ["line", "low", "high"] (defScope s_slopes) := ⟨rfl, rfl, rfl, by decide +kernel, rfl, by decide +kernel, by decide +kernel⟩
def S_slopes : DSp := fun ds M R _ => ∃ (x : Tr) (l h : Int), ds = [trL x, .int l, .int h] ∧ DOk x l h ∧ Sm 898 x.2.1 ∧ l < h ∧ ∀ I : Iv, Slo x l h I → R (.tup [.tup [.int I.p1, .int I.q1], .tup [.int I.p2, .int I.q2]]) M
theorem ok_slopes {P : Program} {w : World} {K : PySem.W.Frag} {mg : Str → Option Value} {base : Heap} {C f : Addr} {fd : FuncData} (T : Txt K mg) (F : FunD K "slopes" "slopes" (defArgs s_slopes) (defBody s_slopes) (defScope s_slopes) [] [] f fd) (h_check_line : CallOk P w K mg base C 1 "check_line" 1 S_check_line []) (h_check_range : CallOk P w K mg base C 2 "check_range" 2 S_check_range []) (h_low_slope : CallOk P w K mg base C 4 "low_slope" 3 S_low_slope []) (hu___neg__ : UOk P w K mg base C 5 "__neg__" 1 S_Line___neg__) : FnOk P w K mg base CX0 6 f fd ["line", "low", "high"] (spD ⟨K, C⟩ 3 S_slopes) := by
  have nd := sc_slopes.nd
  refine fn_ok 5 3 F sc_slopes (fun cdv A outer s H E hr =>
      (qss_cons (qs_expr (qc h_check_line hr (by decide) (qa_cons (qv 0) qa_nil)))
      (qss_cons (qs_expr (qc h_check_range hr (by decide) (qa_cons (qv 1) (qa_cons (qv 2) qa_nil))))
      (qss_cons (qs_asg (qc h_low_slope hr (by decide) (qa_cons (q_negL hu___neg__ hr (by decide) (qv 0)) (qa_cons (qv 1) (qa_cons (qv 2) qa_nil)))) (qg_tup (n := 2) (qgs_cons (qg_name (i := 3) nd) (qgs_cons (qg_name (i := 4) nd) qgs_nil))))
      (qss_one (qs_ret (q_tup (qa_cons (qc h_low_slope hr (by decide) (qa_cons (qv 0) (qa_cons (qv 1) (qa_cons (qv 2) qa_nil)))) (qa_cons (q_tup (qa_cons (q_neg (qv 3)) (qa_cons (qv 4) qa_nil))) qa_nil))))))))) ?_
  rintro ds M R - ⟨x, l, h, rfl, d, sp, hl, hR⟩
  walk_at "w"
  refine ⟨x, rfl, ?_⟩
  walk_at "w"
  refine ⟨l, h, rfl, hl, ?_⟩
  simp only [trL]
  walk_at "w"
  refine ⟨_, _, _, rfl, d.o1, ?_⟩
  walk_at "w"
  refine ⟨negT x, l, h, rfl, d.ng sp, hl, fun p q H => ?_⟩
  walk_at "w"
  refine ⟨x, l, h, rfl, d, hl, fun p1 q1 L => ?_⟩
  walk_at "w"
  exact fin_pure (hR ⟨p1, q1, -p, q⟩ ⟨L, by show LowS _ l h (- -p) q; rw [Int.neg_neg]; exact H⟩)
abbrev N_less : List Str := ["one", "other"]
theorem sc_less : FnScope N_less ["one", "other"] (defScope s_less) := ⟨rfl, rfl, rfl, by decide +kernel, rfl, by decide +kernel, by decide +kernel⟩
def S_less : DSp := fun ds M R _ => ∃ a b c d : Int, ds = [.tup [.int a, .int b], .tup [.int c, .int d]] ∧ IntMulOk a d ∧ IntMulOk c b ∧ R (.bl (decide (a * d < c * b))) M
theorem ok_less {P : Program} {w : World} {K : PySem.W.Frag} {mg : Str → Option Value} {base : Heap} {C f : Addr} {fd : FuncData} (T : Txt K mg) (F : FunD K "less" "less" (defArgs s_less) (defBody s_less) (defScope s_less) [] [] f fd)  : FnOk P w K mg base CX0 1 f fd ["one", "other"] (spD ⟨K, C⟩ 2 S_less) := by
  have nd := sc_less.nd
  refine fn_ok 2 2 F sc_less (fun cdv A outer s H E hr =>
      (qss_one (qs_ret (q_cmp c_lt (q_mul (q_ixC 0 (qv 0)) (q_ixC 1 (qv 1))) (q_mul (q_ixC 0 (qv 1)) (q_ixC 1 (qv 0))))))) ?_
  rintro ds M R - ⟨a, b, c, d, rfl, h1, h2, hR⟩
  walk_at "w"
  exact ⟨h1, h2, fin_pure hR⟩
abbrev N_unfolded : List Str := ["wholes", "found", "top", "bottom", "whole"]
theorem sc_unfolded : FnScope N_unfolded ["wholes", "found"] (defScope s_unfolded) := ⟨rfl, rfl, rfl, by decide +kernel, rfl, by decide +kernel, by decide +kernel⟩
def S_unfolded : DSp := fun ds M R _ => ∃ (p : Addr) (ws : List Int) (r : Int × Int), ds = [.own p, .tup [.int r.1, .int r.2]] ∧ M p = some (.lst (ws.reverse.map .int)) ∧ UfOk ws r ∧ R (.tup [.int (unf ws r).1, .int (unf ws r).2]) M
theorem ok_unfolded {P : Program} {w : World} {K : PySem.W.Frag} {mg : Str → Option Value} {base : Heap} {C f : Addr} {fd : FuncData} (T : Txt K mg) (F : FunD K "unfolded" "unfolded" (defArgs s_unfolded) (defBody s_unfolded) (defScope s_unfolded) [] [] f fd)  : FnOk P w K mg base CX0 1 f fd ["wholes", "found"] (spD ⟨K, C⟩ 2 S_unfolded) := by
  have nd := sc_unfolded.nd
  refine fn_ok 5 2 F sc_unfolded (fun cdv A outer s H E hr =>
      (qss_cons (qs_asg (qv 1) (qg_tup (n := 2) (qgs_cons (qg_name (i := 2) nd) (qgs_cons (qg_name (i := 3) nd) qgs_nil))))
      (qss_cons (qs_for (qi_list (q_rev (qv 0))) (qg_name (i := 4) nd)
        (qss_one (qs_par (i := 2) (j := 3) nd (qa_cons (q_add (qv 3) (q_mul (qv 4) (qv 2))) (qa_cons (qv 2) qa_nil)))))
      (qss_one (qs_ret (q_tup (qa_cons (qv 2) (qa_cons (qv 3) qa_nil)))))))) ?_
  rintro ds M R - ⟨p, ws, r, rfl, hM, ok, hR⟩
  walk_at "w"
  refine vfor_list (ws.map .int) (fun F z => by
    walk_at "w"
    rw [hM]
    walk_at "w"
    rw [← List.map_reverse, List.reverse_reverse]
    exact z) (fun i γ M' => M' = M ∧ ∃ (r' : Int × Int) (y4 : Option D), γ = [some (.own p), some (.tup [.int r.1, .int r.2]), some (.int r'.1), some (.int r'.2), y4] ∧ UfOk (ws.drop i) r' ∧ unf (ws.drop i) r' = unf ws r) ⟨rfl, r, _, rfl, ok, rfl⟩ ?_ ?_
  · rintro i d γ' _ ⟨rfl, r', y4, rfl, ok', e⟩ hd
    rw [List.getElem?_map] at hd
    cases eq : ws[i]? with
    | none => rw [eq] at hd; cases hd
    | some w =>
      rw [eq] at hd
      cases hd
      have hi : i < ws.length := (List.getElem?_eq_some_iff.mp eq).1
      have ei : ws[i] = w := (List.getElem?_eq_some_iff.mp eq).2
      rw [List.drop_eq_getElem_cons hi, ei] at ok' e
      walk_at "w"
      exact ⟨ok'.1, (r'.2 + w * r'.1, r'.1), _, rfl, ok'.2, e⟩
  · rintro γ' _ ⟨rfl, r', y4, rfl, ok', e⟩
    rw [List.length_map, List.drop_length] at e
    walk_at "w"
    rw [← e] at hR
    exact fin_pure hR
abbrev N_simple_between : List Str := ["one", "other", "wholes", "whole", "low_top", "high_top", "found"]
theorem sc_simple_between : FnScope N_simple_between ["one", "other"] (defScope s_simple_between) := ⟨rfl, rfl, rfl, by decide +kernel, rfl, by decide +kernel, by decide +kernel⟩
def S_simple_between : DSp := fun ds M R _ => ∃ L : Lv, ds = [.tup [.int L.I.p1, .int L.I.q1], .tup [.int L.I.p2, .int L.I.q2]] ∧ LOk L ∧ ∀ u v, SB L.I u v → R (.tup [.int u, .int v]) M
theorem ok_simple_between {P : Program} {w : World} {K : PySem.W.Frag} {mg : Str → Option Value} {base : Heap} {C f : Addr} {fd : FuncData} (T : Txt K mg) (F : FunD K "simple_between" "simple_between" (defArgs s_simple_between) (defBody s_simple_between) (defScope s_simple_between) [] [] f fd) (h_less : CallOk P w K mg base C 1 "less" 2 S_less []) (h_unfolded : CallOk P w K mg base C 1 "unfolded" 2 S_unfolded []) : FnOk P w K mg base CX0 2 f fd ["one", "other"] (spD ⟨K, C⟩ 2 S_simple_between) := by
  have nd := sc_simple_between.nd
  refine fn_ok 7 2 F sc_simple_between (fun cdv A outer s H E hr =>
      (qss_cons (qs_set (i := 2) nd (q_lstO qa_nil))
      (qss_cons (qs_while (qt_val qb)
        (qss_cons (qs_set (i := 3) nd (q_div (q_ixC 0 (qv 0)) (q_ixC 1 (qv 0))))
        (qss_cons (qs_if (qt_val (qc h_less hr (by decide) (qa_cons (q_tup (qa_cons (q_add (qv 3) qi) (qa_cons qi qa_nil))) (qa_cons (qv 1) qa_nil))))
          (qss_one qs_break)
          qss_nil)
        (qss_cons (qs_expr (q_append (qv 2) (qv 3)))
        (qss_cons (qs_par (i := 4) (j := 5) nd (qa_cons (q_sub (q_ixC 0 (qv 0)) (q_mul (qv 3) (q_ixC 1 (qv 0)))) (qa_cons (q_sub (q_ixC 0 (qv 1)) (q_mul (qv 3) (q_ixC 1 (qv 1)))) qa_nil)))
        (qss_cons (qs_if (qt_cmp (c_eq hr) (qv 4) qi)
          (qss_cons (qs_set (i := 6) nd (q_tup (qa_cons qi (qa_cons (q_add (q_div (q_ixC 1 (qv 1)) (qv 5)) qi) qa_nil))))
          (qss_cons (qs_set (i := 3) nd (q_pop (qv 2)))
          (qss_cons (qs_set (i := 6) nd (q_tup (qa_cons (q_add (q_ixC 0 (qv 6)) (q_mul (qv 3) (q_ixC 1 (qv 6)))) (qa_cons (q_ixC 1 (qv 6)) qa_nil))))
          (qss_one (qs_ret (qc h_unfolded hr (by decide) (qa_cons (qv 2) (qa_cons (qv 6) qa_nil))))))))
          qss_nil)
        (qss_one (qs_par (i := 0) (j := 1) nd (qa_cons (q_tup (qa_cons (q_ixC 1 (qv 1)) (qa_cons (qv 5) qa_nil))) (qa_cons (q_tup (qa_cons (q_ixC 1 (qv 0)) (qa_cons (qv 4) qa_nil))) qa_nil))))))))))
      (qss_one (qs_ret (qc h_unfolded hr (by decide) (qa_cons (qv 2) (qa_cons (q_tup (qa_cons (q_add (qv 3) qi) (qa_cons qi qa_nil))) qa_nil)))))))) ?_
  rintro ds M R - ⟨L0, rfl, k0, hR⟩
  walk_at "w"
  intro p hp
  refine vWhile_of (fun m γ M' => ∃ ws L y3 y4 y5 y6, γ = [some (.tup [.int L.I.p1, .int L.I.q1]), some (.tup [.int L.I.p2, .int L.I.q2]), some (.own p), y3, y4, y5, y6] ∧ M' = mset M p (.lst (ws.reverse.map .int)) ∧ LP L0 ws L ∧ LOk L ∧ m = (L.I.q1 + L.I.q2).toNat) ⟨_, [], L0, _, _, _, _, rfl, rfl, .nil, k0, rfl⟩ ?_
  rintro m γ' _ ⟨ws, L, y3, y4, y5, y6, rfl, rfl, P, k, rfl⟩
  have q1 := k.ok.q1
  have q2 := k.ok.q2
  have c1 : ∀ i, CD i L.I.q1 := fun i => cd_ok (by omega) k.t1 (by decide)
  have sw : Sm 1003 L.I.w := k.s1.div (by omega)
  have sw1 : Sm 1004 (L.I.w + 1) := Sm.add sw ((show Sm 1 1 by decide).mono (by decide))
  walk_at "w"
  refine ⟨c1 _, ?_⟩
  refine ⟨L.I.w + 1, 1, L.I.p2, L.I.q2, rfl, mul_ok sw1 k.t2 (by decide), mul_ok (b := 1) k.s2 (by decide) (by decide), ?_⟩
  walk_at "w"
  have fl := k.ok.fl
  have h0 := k.ok.ht0
  refine ⟨fun c => ?_, fun c => ⟨?_, mul_ok sw k.t1 (by decide), mul_ok sw k.t2 (by decide), fun z => ?_, fun z => ?_⟩⟩
  · have s := sb_one k.ok (show (L.I.w + 1) * L.I.q2 < L.I.p2 by omega)
    exact ⟨p, ws, (L.I.w + 1, 1), rfl, mset_same, P.uok s, fin_drop hp (hR _ _ (P.sb s))⟩
  · rw [List.length_map, List.length_reverse]
    exact Nat.lt_of_le_of_lt P.len (by decide)
  · have s := sb_zero k.ok z
    have sht : Sm 1505 L.I.ht := Sm.sub (a := 1504) (k.s2.mono (by decide)) (sw.mul k.t2)
    refine ⟨cd_ok h0 sht (by decide), ?_⟩
    rw [List.length_append, List.length_singleton, Nat.add_sub_cancel, List.getElem?_append_right (Nat.le_refl _), Nat.sub_self, List.getElem?_cons_zero, List.dropLast_concat]
    walk_at "w"
    have sq : Sm 502 (L.I.q2 / L.I.ht + 1) := Sm.add (a := 501) (k.t2.div h0) ((show Sm 1 1 by decide).mono (by decide))
    exact ⟨mul_ok sw sq (by decide), p, ws, (1 + L.I.w * (L.I.q2 / L.I.ht + 1), L.I.q2 / L.I.ht + 1), rfl, mset_same, P.uok s, fin_drop hp (hR _ _ (P.sb s))⟩
  · have hl : 0 < L.I.lt := by
      have : L.I.lt ≠ 0 := z
      omega
    have hh : L.I.p2 ≤ (L.I.w + 1) * L.I.q2 := by omega
    have dn := k.down hl hh
    refine ⟨_, ?_, L.I.w :: ws, L.nx, _, _, _, _, rfl, ?_, .cons P k hl hh, dn.1, rfl⟩
    · have := dn.2.2.1
      have := dn.1.ok.q1
      have := dn.1.ok.q2
      omega
    · rw [List.reverse_cons, List.map_append]; rfl
abbrev N_highest : List Str := ["line", "low", "high", "slope", "weight", "value", "place"]
theorem sc_highest : FnScope N_highest ["line", "low", "high", "slope", "weight"] (defScope s_highest) := ⟨rfl, rfl, rfl, by decide +kernel, rfl, by decide +kernel, by decide +kernel⟩
def S_highest : DSp := fun ds M R _ => ∃ (x : Tr) (l h s w : Int), ds = [trL x, .int l, .int h, .int s, .int w] ∧ DOk x l h ∧ Sm 2900 s ∧ Sm 2900 w ∧ R (.int (maxI (gq x s w) l h)) M
theorem ok_highest {P : Program} {w : World} {K : PySem.W.Frag} {mg : Str → Option Value} {base : Heap} {C f : Addr} {fd : FuncData} (T : Txt K mg) (F : FunD K "highest" "highest" (defArgs s_highest) (defBody s_highest) (defScope s_highest) [] [] f fd) (h_greatest : CallOk P w K mg base C 2 "greatest" 6 S_greatest []) (hp_over : POk P w K mg base C 1 "over" S_Line_over) (hp_times : POk P w K mg base C 1 "times" S_Line_times) (hp_plus : POk P w K mg base C 1 "plus" S_Line_plus) : FnOk P w K mg base CX0 3 f fd ["line", "low", "high", "slope", "weight"] (spD ⟨K, C⟩ 5 S_highest) := by
  have nd := sc_highest.nd
  refine fn_ok 7 5 F sc_highest (fun cdv A outer s H E hr =>
      (qss_cons (qs_asg (qc h_greatest hr (by decide) (qa_cons (q_prop hp_times hr (by decide) (qv 0)) (qa_cons (q_add (q_mul (q_prop hp_times hr (by decide) (qv 0)) (qv 1)) (q_prop hp_plus hr (by decide) (qv 0))) (qa_cons (q_prop hp_over hr (by decide) (qv 0)) (qa_cons (q_sub (qv 2) (qv 1)) (qa_cons (qv 3) (qa_cons (qv 4) qa_nil))))))) (qg_tup (n := 2) (qgs_cons (qg_name (i := 5) nd) (qgs_cons (qg_name (i := 6) nd) qgs_nil))))
      (qss_one (qs_ret (q_add (qv 5) (q_mul (qv 3) (qv 1))))))) ?_
  rintro ds M R - ⟨x, l, h, s, w, rfl, d, ss, sw, hR⟩
  have hlh := d.lh
  simp only [trL]
  walk_at "w"
  refine ⟨_, _, _, rfl, ?_⟩
  walk_at "w"
  refine ⟨_, _, _, rfl, ?_⟩
  walk_at "w"
  refine ⟨mul_ok d.st d.sl (by decide), ?_⟩
  refine ⟨_, _, _, rfl, ?_⟩
  walk_at "w"
  refine ⟨_, _, _, rfl, ?_⟩
  walk_at "w"
  refine ⟨qOf x l h s w, rfl, ⟨by show 0 < x.2.2; have := d.o1; omega, by show 0 ≤ h - l; omega, d.st.mono (by decide), (Sm.add (a := 1000) (d.st.mul d.sl) (d.sp.mono (by decide))).mono (by decide), d.so.mono (by decide), (Sm.sub d.sh d.sl).mono (by decide), ss.mono (by decide), sw.mono (by decide)⟩, fun v y A => ?_⟩
  walk_at "w"
  refine ⟨mul_ok ss d.sl (by decide), ?_⟩
  rw [IsMax.eq hlh (high_of A)]
  exact fin_pure hR
abbrev N_simplest : List Str := ["line", "low", "high", "first", "second", "times", "over"]
theorem sc_simplest : FnScope N_simplest ["line", "low", "high"] (defScope s_simplest) := ⟨rfl, rfl, rfl, by decide +kernel, rfl, by decide +kernel, by decide +kernel⟩
def S_simplest : DSp := fun ds M R _ => ∃ (x : Tr) (l h : Int), ds = [trL x, .int l, .int h] ∧ DOk x l h ∧ Sm 898 x.2.1 ∧ l < h ∧ ∀ (I : Iv) (u v : Int), Slo x l h I → SB I u v → R (trL (u, loW x l h u v, v)) M
theorem ok_simplest {P : Program} {w : World} {K : PySem.W.Frag} {mg : Str → Option Value} {base : Heap} {C f : Addr} {fd : FuncData} (T : Txt K mg) (F : FunD K "simplest" "simplest" (defArgs s_simplest) (defBody s_simplest) (defScope s_simplest) [] [] f fd) (h_slopes : CallOk P w K mg base C 6 "slopes" 3 S_slopes []) (h_simple_between : CallOk P w K mg base C 2 "simple_between" 2 S_simple_between []) (h_Line : LMk P w K mg base C 3) (h_highest : CallOk P w K mg base C 3 "highest" 5 S_highest []) : FnOk P w K mg base CX0 7 f fd ["line", "low", "high"] (spD ⟨K, C⟩ 3 S_simplest) := by
  have nd := sc_simplest.nd
  refine fn_ok 7 3 F sc_simplest (fun cdv A outer s H E hr =>
      (qss_cons (qs_asg (qc h_slopes hr (by decide) (qa_cons (qv 0) (qa_cons (qv 1) (qa_cons (qv 2) qa_nil)))) (qg_tup (n := 2) (qgs_cons (qg_name (i := 3) nd) (qgs_cons (qg_name (i := 4) nd) qgs_nil))))
      (qss_cons (qs_asg (qc h_simple_between hr (by decide) (qa_cons (qv 3) (qa_cons (qv 4) qa_nil))) (qg_tup (n := 2) (qgs_cons (qg_name (i := 5) nd) (qgs_cons (qg_name (i := 6) nd) qgs_nil))))
      (qss_one (qs_ret (q_line h_Line hr (by decide) (qa_cons (qv 5) (qa_cons (qc h_highest hr (by decide) (qa_cons (qv 0) (qa_cons (qv 1) (qa_cons (qv 2) (qa_cons (q_neg (qv 5)) (qa_cons (qv 6) qa_nil)))))) (qa_cons (qv 6) qa_nil))))))))) ?_
  rintro ds M R - ⟨x, l, h, rfl, d, sp, hl, hR⟩
  walk_at "w"
  refine ⟨x, l, h, rfl, d, sp, hl, fun I sI => ?_⟩
  walk_at "w"
  have k := sI.lok d sp
  refine ⟨⟨I, x.1, x.2.2⟩, rfl, k, fun u v s => ?_⟩
  obtain ⟨su, sv⟩ := sb_sm k s
  walk_at "w"
  refine ⟨x, l, h, _, _, rfl, d, su.neg.mono (by decide), sv.mono (by decide), ?_⟩
  walk_at "w"
  exact ⟨s.mem.v1, fin_pure (hR I u v sI s)⟩
abbrev N_leaning : List Str := ["line", "low", "high", "plain", "zeros", "ones", "late"]
theorem sc_leaning : FnScope N_leaning ["line", "low", "high"] (defScope s_leaning) := ⟨rfl, rfl, rfl, by decide +kernel, rfl, by decide +kernel, by decide +kernel⟩
def TwoP (x : Tr) (l h s w : Int) (i : Nat) (acc : List D) : Prop := (i = 0 ∧ acc = []) ∨ (∃ n0, IsArg (gq x s w) l h false n0 ∧ i = 1 ∧ acc = [.int n0]) ∨ (∃ n0 n1, IsArg (gq x s w) l h false n0 ∧ IsArg (gq x s w) l h true n1 ∧ i = 2 ∧ acc = [.int n0, .int n1])
theorem TwoP.len {x : Tr} {l h s w : Int} {i : Nat} {acc : List D} (t : TwoP x l h s w i acc) : acc.length < sizeLine := by
  rcases t with ⟨_, rfl⟩ | ⟨n0, _, _, rfl⟩ | ⟨n0, n1, _, _, _, rfl⟩
  · exact (show 0 < sizeLine by decide)
  · exact (show 1 < sizeLine by decide)
  · exact (show 2 < sizeLine by decide)
def S_leaning : DSp := fun ds M R _ => ∃ (x : Tr) (l h : Int), ds = [trL x, .int l, .int h] ∧ DOk x l h ∧ Sm 898 x.2.1 ∧ l < h ∧ ∀ (I : Iv) (u v z0 z1 o0 o1 : Int), Slo x l h I → SB I u v → Lean x l h u v z0 z1 o0 o1 → R (.tup [trL (u, loW x l h u v, v), .lst [.int z0, .int z1], .lst [.int o0, .int o1]]) M
theorem ok_leaning {P : Program} {w : World} {K : PySem.W.Frag} {mg : Str → Option Value} {base : Heap} {C f : Addr} {fd : FuncData} (T : Txt K mg) (F : FunD K "leaning" "leaning" (defArgs s_leaning) (defBody s_leaning) (defScope s_leaning) [] [] f fd) (h_simplest : CallOk P w K mg base C 7 "simplest" 3 S_simplest []) (h_place_of : CallOk P w K mg base C 3 "place_of" 6 S_place_of []) (hp_over : POk P w K mg base C 1 "over" S_Line_over) (hp_times : POk P w K mg base C 1 "times" S_Line_times) : FnOk P w K mg base CX0 8 f fd ["line", "low", "high"] (spD ⟨K, C⟩ 3 S_leaning) := by
  have nd := sc_leaning.nd
  refine fn_ok 7 3 F sc_leaning (fun cdv A outer s H E hr =>
      (qss_cons (qs_set (i := 3) nd (qc h_simplest hr (by decide) (qa_cons (qv 0) (qa_cons (qv 1) (qa_cons (qv 2) qa_nil)))))
      (qss_cons (qs_setLc (i := 4) (own := [("late", 6)]) nd (qi_tup (q_tup (qa_cons qb (qa_cons qb qa_nil)))) (blkOk_by (own := [("late", 6)]) (N := N_leaning) (sc := defScope s_leaning) (by decide +kernel)) (fun _ _ _ _ _ => (qgw_name (i := 6) nd)) (fun _ _ _ _ _ => qts_nil) (fun _ _ _ _ _ => (qc h_place_of hr (by decide) (qa_cons (qv 0) (qa_cons (qv 1) (qa_cons (qv 2) (qa_cons (q_neg (q_prop hp_times hr (by decide) (qv 3))) (qa_cons (q_prop hp_over hr (by decide) (qv 3)) (qa_cons (qv 6) qa_nil)))))))) (sw_true rfl rfl rfl (by decide +kernel)))
      (qss_cons (qs_setLc (i := 5) (own := [("late", 6)]) nd (qi_tup (q_tup (qa_cons qb (qa_cons qb qa_nil)))) (blkOk_by (own := [("late", 6)]) (N := N_leaning) (sc := defScope s_leaning) (by decide +kernel)) (fun _ _ _ _ _ => (qgw_name (i := 6) nd)) (fun _ _ _ _ _ => qts_nil) (fun _ _ _ _ _ => (qc h_place_of hr (by decide) (qa_cons (qv 0) (qa_cons (qv 1) (qa_cons (qv 2) (qa_cons (q_prop hp_times hr (by decide) (qv 3)) (qa_cons (q_neg (q_prop hp_over hr (by decide) (qv 3))) (qa_cons (qv 6) qa_nil)))))))) (sw_true rfl rfl rfl (by decide +kernel)))
      (qss_one (qs_ret (q_tup (qa_cons (qv 3) (qa_cons (qv 4) (qa_cons (qv 5) qa_nil)))))))))) ?_
  rintro ds M R - ⟨x, l, h, rfl, d, sp, hl, hR⟩
  walk_at "w"
  refine ⟨x, l, h, rfl, d, sp, hl, fun I u v sI s => ?_⟩
  have k := sI.lok d sp
  obtain ⟨su, sv⟩ := sb_sm k s
  simp only [trL]
  walk_at "w"
  refine vlc_tup [.bl false, .bl true] (fun F z => by walk_at "w"; exact z) (TwoP x l h (-u) (v)) (.inl ⟨rfl, rfl⟩) ?_ ?_ ?_
  · exact fun i acc t => t.len
  · rintro i acc b p hp (⟨rfl, rfl⟩ | ⟨n0, N0, rfl, rfl⟩ | ⟨n0, n1, _, _, rfl, rfl⟩) hd
    · cases hd
      walk_at "w"
      try simp only [e_lt, e_lp, e_lo]
      walk_at "w"
      try simp only [e_lt, e_lp, e_lo]
      walk_at "w"
      refine ⟨x, l, h, _, _, false, rfl, d, su.neg.mono (by decide), sv.mono (by decide), fun n N => ?_⟩
      walk_at "w"
      exact ⟨M, rfl, rfl, .inr (.inl ⟨n, N, rfl, rfl⟩)⟩
    · cases hd
      walk_at "w"
      try simp only [e_lt, e_lp, e_lo]
      walk_at "w"
      try simp only [e_lt, e_lp, e_lo]
      walk_at "w"
      refine ⟨x, l, h, _, _, true, rfl, d, su.neg.mono (by decide), sv.mono (by decide), fun n N => ?_⟩
      walk_at "w"
      exact ⟨M, rfl, rfl, .inr (.inr ⟨n0, n, N0, N, rfl, rfl⟩)⟩
    · cases hd
  rintro acc (⟨e, _⟩ | ⟨n0, _, e, _⟩ | ⟨z0, z1, Z0, Z1, _, rfl⟩)
  · cases e
  · cases e
  walk_at "w"
  refine vlc_tup [.bl false, .bl true] (fun F z => by walk_at "w"; exact z) (TwoP x l h (u) (-v)) (.inl ⟨rfl, rfl⟩) ?_ ?_ ?_
  · exact fun i acc t => t.len
  · rintro i acc b p hp (⟨rfl, rfl⟩ | ⟨n0, N0, rfl, rfl⟩ | ⟨n0, n1, _, _, rfl, rfl⟩) hd
    · cases hd
      walk_at "w"
      try simp only [e_lt, e_lp, e_lo]
      walk_at "w"
      try simp only [e_lt, e_lp, e_lo]
      walk_at "w"
      refine ⟨x, l, h, _, _, false, rfl, d, su.mono (by decide), sv.neg.mono (by decide), fun n N => ?_⟩
      walk_at "w"
      exact ⟨M, rfl, rfl, .inr (.inl ⟨n, N, rfl, rfl⟩)⟩
    · cases hd
      walk_at "w"
      try simp only [e_lt, e_lp, e_lo]
      walk_at "w"
      try simp only [e_lt, e_lp, e_lo]
      walk_at "w"
      refine ⟨x, l, h, _, _, true, rfl, d, su.mono (by decide), sv.neg.mono (by decide), fun n N => ?_⟩
      walk_at "w"
      exact ⟨M, rfl, rfl, .inr (.inr ⟨n0, n, N0, N, rfl, rfl⟩)⟩
    · cases hd
  rintro acc (⟨e, _⟩ | ⟨n0, _, e, _⟩ | ⟨o0, o1, O0, O1, _, rfl⟩)
  · cases e
  · cases e
  walk_at "w"
  exact fin_pure (hR I u v z0 z1 o0 o1 sI s ⟨Z0, Z1, O0, O1⟩)
abbrev N_corners : List Str := ["pieces", "lowers", "uppers", "index", "line", "low", "high", "zeros", "ones", "plain", "number"]
theorem sc_corners : FnScope N_corners ["pieces"] (defScope s_corners) := ⟨rfl, rfl, rfl, by decide +kernel, rfl, by decide +kernel, by decide +kernel⟩
structure PcOk (p : Pc) : Prop where
  d : DOk p.1 p.2.1 p.2.2
  sp : Sm 898 p.1.2.1
def coF (x : Tr) (i : Nat) : D → D
  | .int n => coD (n, vl x n, i)
  | d => d
theorem coF_map (x : Tr) (i : Nat) (zs : List Int) : (((zs.map D.int).filter fun _ => true).map (coF x i)) = (zs.map fun n => (n, vl x n, i)).map coD := by
  rw [List.filter_eq_self.mpr (fun _ _ => rfl), List.map_map, List.map_map]
  rfl
theorem co_pure : ∀ L : List Co, pureL (L.map coD) = true
  | [] => rfl
  | e :: r => by
    show (pureD (coD e) && pureL (r.map coD)) = true
    rw [co_pure r]; rfl
theorem mem_two {M : Mem} {p q : Addr} {a b a' b' : MO} : mset (mset (mset (mset M p a) q b) p a') q b' = mset (mset M p a') q b' := by
  funext c
  by_cases h : c = q
  · subst h; rw [mset_same, mset_same]
  · rw [mset_ne h, mset_ne h]
    by_cases h2 : c = p
    · subst h2; rw [mset_same, mset_same]
    · rw [mset_ne h2, mset_ne h2, mset_ne h, mset_ne h2]
def S_corners : DSp := fun ds M R _ => ∃ P : List Pc, ds = [.lst (P.map pcD)] ∧ (∀ p ∈ P, PcOk p) ∧ P.length ≤ 1000 ∧ ∀ L U, CorN P P.length L U → R (.tup [.lst (L.map coD), .lst (U.map coD)]) M
theorem ok_corners {P : Program} {w : World} {K : PySem.W.Frag} {mg : Str → Option Value} {base : Heap} {C f : Addr} {fd : FuncData} (T : Txt K mg) (F : FunD K "corners" "corners" (defArgs s_corners) (defBody s_corners) (defScope s_corners) [] [] f fd) (h_leaning : CallOk P w K mg base C 8 "leaning" 3 S_leaning []) (h_callO : COk P w K mg base C 3 2 S_Line___call__) : FnOk P w K mg base CX0 9 f fd ["pieces"] (spD ⟨K, C⟩ 1 S_corners) := by
  have nd := sc_corners.nd
  refine fn_ok 11 1 F sc_corners (fun cdv A outer s H E hr =>
      (qss_cons (qs_par (i := 1) (j := 2) nd (qa_cons (q_lstO qa_nil) (qa_cons (q_lstO qa_nil) qa_nil)))
      (qss_cons (qs_for (qi_enum T.b_enumerate (qa_cons (qv 0) qa_nil)) (qg_tup (n := 2) (qgs_cons (qg_name (i := 3) nd) (qgs_cons (qg_tup (n := 3) (qgs_cons (qg_name (i := 4) nd) (qgs_cons (qg_name (i := 5) nd) (qgs_cons (qg_name (i := 6) nd) qgs_nil)))) qgs_nil)))
        (qss_cons (qs_par (i := 7) (j := 8) nd (qa_cons (q_lst (qa_cons (qv 5) qa_nil)) (qa_cons (q_lst (qa_cons (qv 5) qa_nil)) qa_nil)))
        (qss_cut (qs_if (qt_cmp c_lt (qv 5) (qv 6))
          (qss_one (qs_asg (qc h_leaning hr (by decide) (qa_cons (qv 4) (qa_cons (qv 5) (qa_cons (qv 6) qa_nil)))) (qg_tup (n := 3) (qgs_cons (qg_name (i := 9) nd) (qgs_cons (qg_name (i := 7) nd) (qgs_cons (qg_name (i := 8) nd) qgs_nil))))))
          qss_nil)
        (qss_cons (qs_augL (i := 1) nd (q_lc (own := [("number", 10)]) nd (qi_list (qv 7)) (blkOk_by (own := [("number", 10)]) (N := N_corners) (sc := defScope s_corners) (by decide +kernel)) (fun _ _ _ _ _ => (qgw_name (i := 10) nd)) (fun _ _ _ _ _ => qts_nil) (fun _ _ _ _ _ => (q_tup (qa_cons (qv 10) (qa_cons (q_callO h_callO hr (by decide) (qv 4) (qa_cons (qv 10) qa_nil)) (qa_cons (qv 3) qa_nil)))))))
        (qss_one (qs_augL (i := 2) nd (q_lc (own := [("number", 10)]) nd (qi_list (qv 8)) (blkOk_by (own := [("number", 10)]) (N := N_corners) (sc := defScope s_corners) (by decide +kernel)) (fun _ _ _ _ _ => (qgw_name (i := 10) nd)) (fun _ _ _ _ _ => qts_nil) (fun _ _ _ _ _ => (q_tup (qa_cons (qv 10) (qa_cons (q_callO h_callO hr (by decide) (qv 4) (qa_cons (qv 10) qa_nil)) (qa_cons (qv 3) qa_nil))))))))))))
      (qss_one (qs_ret (q_tup (qa_cons (qv 1) (qa_cons (qv 2) qa_nil)))))))) ?_
  rintro ds M R - ⟨P, rfl, ok, len, hR⟩
  walk_at "w"
  intro p hp q hq
  have hqp : q ≠ p := fun z => by rw [z, mset_same] at hq; cases hq
  have hq' : M q = none := by rw [mset_ne hqp] at hq; exact hq
  refine vfor_enumS (.lst (P.map pcD)) (P.map pcD) (fun F h => by walk_at "w"; exact h) rfl rfl (fun i γ M' => ∃ L U, M' = mset (mset M p (.lst (L.map coD))) q (.lst (U.map coD)) ∧ CorN P i L U ∧ ∃ y3 y4 y5 y6 y7 y8 y9 y10, γ = [some (.lst (P.map pcD)), some (.own p), some (.own q), y3, y4, y5, y6, y7, y8, y9, y10]) ⟨[], [], rfl, CorN.zero P, _, _, _, _, _, _, _, _, rfl⟩ (by rintro i γ' _ ⟨L, U, rfl, _⟩; rfl) ?_ ?_
  · rintro i d γ' M1 ⟨L, U, hM1, C, y3, y4, y5, y6, y7, y8, y9, y10, rfl⟩ hd
    rw [List.getElem?_map] at hd
    obtain ⟨⟨x, l, h⟩, hp', rfl⟩ := Option.map_eq_some_iff.mp hd
    have k := ok _ (List.mem_of_getElem? hp')
    have hi : i < P.length := by
      rcases Nat.lt_or_ge i P.length with z | z
      · exact z
      · rw [List.getElem?_eq_none z] at hp'; cases hp'
    have d := k.d
    have lh := d.lh
    have x1 := d.o1
    simp only at d lh x1
    simp only [pcD]
    walk_at "w"
    refine ⟨fun γ M' => M' = M1 ∧ ∃ zs os y9 y10, γ = [some (.lst (P.map pcD)), some (.own p), some (.own q), some (.int i), some (trL x), some (.int l), some (.int h), some (.lst (zs.map D.int)), some (.lst (os.map D.int)), y9, y10] ∧ Bnd x l h zs os ∧ zs.length ≤ 2 ∧ os.length ≤ 2, ?_, ?_⟩
    · walk_at "w"
      refine ⟨fun c => ⟨x, l, h, rfl, d, k.sp, c, fun I u v z0 z1 o0 o1 sI s Ln => ?_⟩, fun c => ?_⟩
      · walk_at "w"
        exact ⟨[z0, z1], [o0, o1], _, _, rfl, bnd_lean x1 c sI s Ln, by simp, by simp⟩
      · obtain rfl : l = h := by omega
        exact ⟨[l], [l], _, _, rfl, bnd_one x l, by simp, by simp⟩
    rintro γ' M2 ⟨e0, zs, os, z9', z10', rfl, B, lz, lo⟩
    rw [e0]
    have hc : ∀ n, l ≤ n → n ≤ h → IntMulOk x.1 n ∧ CD (x.1 * n + x.2.1) x.2.2 := fun n n1 n2 => ⟨mul_ok d.st (sm_between d.sl d.sh n1 n2) (by decide), cd_ok (by omega) d.so (by decide)⟩
    have C2 := C.step hp' B lz lo
    have eL : M1 p = some (.lst (L.map coD)) := by rw [hM1, mset_ne (Ne.symm hqp), mset_same]
    have z2 : 2 < sizeLine := by decide
    have z9 : 2002 < sizeLine := by decide
    have ln := C.ln
    have un := C.un
    have zr := B.zr
    have orr := B.or'
    walk_at "w"
    refine mf_list (fun _ => true) (coF x i) (zs.map D.int) (fun F z => by walk_at "w"; exact z) (by rw [List.length_map]; omega) (fun d hd _ => by obtain ⟨n, _, rfl⟩ := List.mem_map.mp hd; rfl) ?_ ?_
    · intro j d' pp acc P1 Q hd hpp hP hQ
      obtain ⟨n, hn, rfl⟩ := List.mem_map.mp (List.mem_of_getElem? hd)
      obtain ⟨c1, c2⟩ := hc n (zr n hn).1 (zr n hn).2
      simp only [trL]
      walk_at "w"
      refine ⟨_, _, _, _, rfl, c1, c2, ?_⟩
      walk_at "w"
      exact hP rfl
    rw [coF_map]
    simp only [eL]
    refine ⟨co_pure _, by simp only [List.length_map]; omega, ?_⟩
    have eU : mset M1 p (.lst (L.map coD ++ (zs.map fun n => (n, vl x n, i)).map coD)) q = some (.lst (U.map coD)) := by rw [mset_ne hqp, hM1, mset_same]
    refine mf_list (fun _ => true) (coF x i) (os.map D.int) (fun F z => by walk_at "w"; exact z) (by rw [List.length_map]; omega) (fun d hd _ => by obtain ⟨n, _, rfl⟩ := List.mem_map.mp hd; rfl) ?_ ?_
    · intro j d' pp acc P1 Q hd hpp hP hQ
      obtain ⟨n, hn, rfl⟩ := List.mem_map.mp (List.mem_of_getElem? hd)
      obtain ⟨c1, c2⟩ := hc n (orr n hn).1 (orr n hn).2
      simp only [trL]
      walk_at "w"
      refine ⟨_, _, _, _, rfl, c1, c2, ?_⟩
      walk_at "w"
      exact hP rfl
    rw [coF_map]
    simp only [eU]
    refine ⟨co_pure _, by simp only [List.length_map]; omega, ?_⟩
    refine ⟨_, _, ?_, C2, _, _, _, _, _, _, _, _, rfl⟩
    rw [hM1, mem_two, List.map_append, List.map_append]
  · rintro γ' _ ⟨L, U, rfl, C, y3, y4, y5, y6, y7, y8, y9, y10, rfl⟩
    walk_at "w"
    rw [List.length_map] at C
    exact fin_frz2 hp hq' (Ne.symm hqp) (hR L U C)
abbrev N_bars_of : List Str := ["pieces", "lowers", "uppers", "first", "second", "never", "number", "value", "index", "other", "its", "place", "bar", "end"]
theorem sc_bars_of : FnScope N_bars_of ["pieces"] (defScope s_bars_of) := ⟨rfl, rfl, rfl, by decide +kernel, rfl, by decide +kernel, by decide +kernel⟩
structure EnOk (e : Co) : Prop where
  n : Sm 500 e.1
  f : Sm 1001 e.2.1
theorem corn_sm {P : List Pc} {L U : List Co} (C : CorN P P.length L U) (ok : ∀ p ∈ P, PcOk p) : (∀ e ∈ L, EnOk e) ∧ ∀ e ∈ U, EnOk e := by
  refine ⟨fun e he => ?_, fun e he => ?_⟩
  · obtain ⟨_, p, hp, h1, h2, h3⟩ := C.lm e he
    have k := (ok p (List.mem_of_getElem? hp)).d
    exact ⟨sm_between k.sl k.sh h1 h2, by rw [h3]; exact k.val h1 h2⟩
  · obtain ⟨_, p, hp, h1, h2, h3⟩ := C.um e he
    have k := (ok p (List.mem_of_getElem? hp)).d
    exact ⟨sm_between k.sl k.sh h1 h2, by rw [h3]; exact k.val h1 h2⟩
abbrev Mm (L U : List Co) : Co → Co → Prop := fun e c => e ∈ L ∧ c ∈ U
theorem fr_sm {a b : Int} {i j : Nat} (b1 : 1 ≤ b) (sa : Sm i a) (sb : Sm j b) : Sm i (fr a b).1 ∧ Sm j (fr a b).2 := ⟨sa.div (gcdI_pos b1), sb.div (gcdI_pos b1)⟩
theorem seen_mem {L U : List Co} {i j : Nat} {e c : Co} (h : Seen L U i j e c) : e ∈ L ∧ c ∈ U := by
  rcases h with ⟨a, _, q, m⟩ | ⟨q, b, _, z⟩
  · exact ⟨List.mem_of_getElem? q, m⟩
  · exact ⟨List.mem_of_getElem? q, List.mem_of_getElem? z⟩
theorem bars_pure (f s : Option (Int × Int × Co × Co)) (n : Option (Co × Co)) : pureD (.tup [bfD f, bfD s, nvD n]) = true := by
  rcases f with _ | ⟨p, q, e, c⟩ <;> rcases s with _ | ⟨p2, q2, e2, c2⟩ <;> rcases n with _ | ⟨a, b⟩ <;> rfl
theorem fst_sm {e c : Co} (a : EnOk e) (b : EnOk c) (l : c.1 < e.1) : Sm 1003 (fr (e.2.1 - c.2.1 - 1) (e.1 - c.1)).1 ∧ Sm 501 (fr (e.2.1 - c.2.1 - 1) (e.1 - c.1)).2 :=
  fr_sm (by omega) (Sm.sub (a := 1002) (Sm.sub a.f b.f) ((show Sm 1 1 by decide).mono (by decide))) (Sm.sub a.n b.n)
theorem snd_sm {e c : Co} (a : EnOk e) (b : EnOk c) (l : e.1 < c.1) : Sm 1003 (fr (c.2.1 + 1 - e.2.1) (c.1 - e.1)).1 ∧ Sm 501 (fr (c.2.1 + 1 - e.2.1) (c.1 - e.1)).2 :=
  fr_sm (by omega) (Sm.sub (a := 1002) (Sm.add (a := 1001) b.f ((show Sm 1 1 by decide).mono (by decide))) (a.f.mono (by decide))) (Sm.sub b.n a.n)
def S_bars_of : DSp := fun ds M R _ => ∃ P : List Pc, ds = [.lst (P.map pcD)] ∧ (∀ p ∈ P, PcOk p) ∧ P.length ≤ 1000 ∧ ∀ L U f s n, CorN P P.length L U → Fst1 (Mm L U) f → Snd1 (Mm L U) s → Nev1 (Mm L U) n → R (.tup [bfD f, bfD s, nvD n]) M
theorem ok_bars_of {P : Program} {w : World} {K : PySem.W.Frag} {mg : Str → Option Value} {base : Heap} {C f : Addr} {fd : FuncData} (T : Txt K mg) (F : FunD K "bars_of" "bars_of" (defArgs s_bars_of) (defBody s_bars_of) (defScope s_bars_of) [] [] f fd) (h_corners : CallOk P w K mg base C 9 "corners" 1 S_corners []) (h_fraction : CallOk P w K mg base C 2 "fraction" 2 S_fraction []) (h_less : CallOk P w K mg base C 1 "less" 2 S_less []) : FnOk P w K mg base CX0 10 f fd ["pieces"] (spD ⟨K, C⟩ 1 S_bars_of) := by
  have nd := sc_bars_of.nd
  refine fn_ok 14 1 F sc_bars_of (fun cdv A outer s H E hr =>
      (qss_cons (qs_asg (qc h_corners hr (by decide) (qa_cons (qv 0) qa_nil)) (qg_tup (n := 2) (qgs_cons (qg_name (i := 1) nd) (qgs_cons (qg_name (i := 2) nd) qgs_nil))))
      (qss_cons (qs_asg (q_tup (qa_cons qn (qa_cons qn (qa_cons qn qa_nil)))) (qg_tup (n := 3) (qgs_cons (qg_name (i := 3) nd) (qgs_cons (qg_name (i := 4) nd) (qgs_cons (qg_name (i := 5) nd) qgs_nil)))))
      (qss_cons (qs_for (qi_list (qv 1)) (qg_tup (n := 3) (qgs_cons (qg_name (i := 6) nd) (qgs_cons (qg_name (i := 7) nd) (qgs_cons (qg_name (i := 8) nd) qgs_nil))))
        (qss_one (qs_for (qi_list (qv 2)) (qg_tup (n := 3) (qgs_cons (qg_name (i := 9) nd) (qgs_cons (qg_name (i := 10) nd) (qgs_cons (qg_name (i := 11) nd) qgs_nil))))
          (qss_cons (qs_set (i := 12) nd (q_tup (qa_cons (qv 9) (qa_cons (qv 11) (qa_cons (qv 6) (qa_cons (qv 8) qa_nil))))))
          (qss_cut (qs_if (QW.qt (qw_and (qt_cmp (c_eq hr) (qv 6) (qv 9)) (qw_and1 (qt_cmp c_gt (qv 7) (qv 10)))))
            (qss_one (qs_set (i := 5) nd (qv 12)))
            qss_nil)
          (qss_cut (qs_if (qt_cmp c_gt (qv 6) (qv 9))
            (qss_cons (qs_set (i := 13) nd (qc h_fraction hr (by decide) (qa_cons (q_sub (q_sub (qv 7) (qv 10)) qi) (qa_cons (q_sub (qv 6) (qv 9)) qa_nil))))
            (qss_one (qs_if (QW.qt (qw_or (qt_isN (qv 3)) (qw_or1 (qt_val (qc h_less hr (by decide) (qa_cons (q_ixC 0 (qv 3)) (qa_cons (qv 13) qa_nil)))))))
              (qss_one (qs_set (i := 3) nd (q_tup (qa_cons (qv 13) (qa_cons (qv 12) qa_nil)))))
              qss_nil)))
            qss_nil)
          (qss_one (qs_if (qt_cmp c_lt (qv 6) (qv 9))
            (qss_cons (qs_set (i := 13) nd (qc h_fraction hr (by decide) (qa_cons (q_sub (q_add (qv 10) qi) (qv 7)) (qa_cons (q_sub (qv 9) (qv 6)) qa_nil))))
            (qss_one (qs_if (QW.qt (qw_or (qt_isN (qv 4)) (qw_or1 (qt_val (qc h_less hr (by decide) (qa_cons (qv 13) (qa_cons (q_ixC 0 (qv 4)) qa_nil)))))))
              (qss_one (qs_set (i := 4) nd (q_tup (qa_cons (qv 13) (qa_cons (qv 12) qa_nil)))))
              qss_nil)))
            qss_nil))))))))
      (qss_one (qs_ret (q_tup (qa_cons (qv 3) (qa_cons (qv 4) (qa_cons (qv 5) qa_nil)))))))))) ?_
  rintro ds M R - ⟨P, rfl, ok, len, hR⟩
  walk_at "w"
  refine ⟨P, rfl, ok, len, fun L U C => ?_⟩
  obtain ⟨lo, uo⟩ := corn_sm C ok
  walk_at "w"
  refine vfor_list (L.map coD) (fun F h => by walk_at "w"; exact h) (fun i γ M' => M' = M ∧ ∃ f s n y6 y7 y8 y9 y10 y11 y12 y13, γ = [some (.lst (P.map pcD)), some (.lst (L.map coD)), some (.lst (U.map coD)), some (bfD f), some (bfD s), some (nvD n), y6, y7, y8, y9, y10, y11, y12, y13] ∧ Fst1 (Seen L U i 0) f ∧ Snd1 (Seen L U i 0) s ∧ Nev1 (Seen L U i 0) n) ⟨rfl, none, none, none, _, _, _, _, _, _, _, _, rfl, fun e c t => absurd t (seen_zero e c), fun e c t => absurd t (seen_zero e c), fun e c t => absurd t (seen_zero e c)⟩ ?_ ?_
  · rintro i d γ' M1 ⟨hM, f, s, n, y6, y7, y8, y9, y10, y11, y12, y13, rfl, Hf, Hs, Hn⟩ hd
    rw [List.getElem?_map] at hd
    obtain ⟨e, he, rfl⟩ := Option.map_eq_some_iff.mp hd
    have e1 := lo e (List.mem_of_getElem? he)
    simp only [coD]
    walk_at "w"
    refine vfor_list (U.map coD) (fun F h => by walk_at "w"; exact h) (fun j γ M' => M' = M ∧ ∃ f s n y9 y10 y11 y12 y13, γ = [some (.lst (P.map pcD)), some (.lst (L.map coD)), some (.lst (U.map coD)), some (bfD f), some (bfD s), some (nvD n), some (.int e.1), some (.int e.2.1), some (.int e.2.2), y9, y10, y11, y12, y13] ∧ Fst1 (Seen L U i j) f ∧ Snd1 (Seen L U i j) s ∧ Nev1 (Seen L U i j) n) ⟨hM, f, s, n, _, _, _, _, _, rfl, Hf, Hs, Hn⟩ ?_ ?_
    · rintro j d γ' M2 ⟨hM2, f, s, n, y9, y10, y11, y12, y13, rfl, Hf, Hs, Hn⟩ hd2
      rw [List.getElem?_map] at hd2
      obtain ⟨c, hc, rfl⟩ := Option.map_eq_some_iff.mp hd2
      have c1 := uo c (List.mem_of_getElem? hc)
      have hT := seen_step he hc
      simp only [coD]
      walk_at "w"
      refine ⟨fun γ M' => M' = M ∧ ∃ n y13, γ = [some (.lst (P.map pcD)), some (.lst (L.map coD)), some (.lst (U.map coD)), some (bfD f), some (bfD s), some (nvD n), some (.int e.1), some (.int e.2.1), some (.int e.2.2), some (.int c.1), some (.int c.2.1), some (.int c.2.2), some (barD e c), y13] ∧ Nev1 (Seen L U i (j + 1)) n, ?_, ?_⟩
      · walk_at "w"
        exact ⟨fun t => ⟨fun z => ⟨hM2, some (e, c), _, rfl, Nev1.new hT t (by omega)⟩, fun z => ⟨hM2, n, _, rfl, Hn.skip hT (fun _ => by omega)⟩⟩, fun t => ⟨hM2, n, _, rfl, Hn.skip hT (fun z => absurd z t)⟩⟩
      rintro γ' M3 ⟨hM3, n', y13', rfl, Hn'⟩
      walk_at "w"
      refine ⟨fun γ M' => M' = M ∧ ∃ f y13, γ = [some (.lst (P.map pcD)), some (.lst (L.map coD)), some (.lst (U.map coD)), some (bfD f), some (bfD s), some (nvD n'), some (.int e.1), some (.int e.2.1), some (.int e.2.2), some (.int c.1), some (.int c.2.1), some (.int c.2.2), some (barD e c), y13] ∧ Fst1 (Seen L U i (j + 1)) f, ?_, ?_⟩
      · walk_at "w"
        refine ⟨fun t => ?_, fun t => ⟨hM3, f, _, rfl, Hf.skip hT (by omega)⟩⟩
        refine ⟨_, _, rfl, by omega, (Sm.sub e1.n c1.n).mono (by decide), ?_⟩
        obtain ⟨s1, s2⟩ := fst_sm e1 c1 t
        rcases f with _ | ⟨p, q, e', c'⟩
        · simp only [bfD]
          walk_at "w"
          exact ⟨hM3, _, _, rfl, Hf.new hT t (fun _ _ _ _ z => by cases z)⟩
        · obtain ⟨m1, m2⟩ := seen_mem Hf.1
          obtain ⟨t1, t2⟩ := fst_sm (lo _ m1) (uo _ m2) Hf.2.1
          rw [← Hf.2.2.1] at t1 t2
          simp only [bfD]
          walk_at "w"
          refine ⟨_, _, _, _, rfl, mul_ok t1 s2 (by decide), mul_ok s1 t2 (by decide), ?_⟩
          walk_at "w"
          exact ⟨fun z => ⟨hM3, _, _, rfl, Hf.new hT t (fun _ _ _ _ y => by cases y; exact z)⟩, fun z => ⟨hM3, some (p, q, e', c'), _, rfl, Hf.keep hT t (by omega)⟩⟩
      rintro γ' M4 ⟨hM4, f', y13'', rfl, Hf'⟩
      walk_at "w"
      refine ⟨fun t => ?_, fun t => ⟨hM4, f', s, n', _, _, _, _, _, rfl, Hf', Hs.skip hT (by omega), Hn'⟩⟩
      refine ⟨_, _, rfl, by omega, (Sm.sub c1.n e1.n).mono (by decide), ?_⟩
      obtain ⟨s1, s2⟩ := snd_sm e1 c1 t
      rcases s with _ | ⟨p, q, e', c'⟩
      · simp only [bfD]
        walk_at "w"
        exact ⟨hM4, f', some (_, _, e, c), n', _, _, _, _, _, rfl, Hf', Hs.new hT t (fun _ _ _ _ z => by cases z), Hn'⟩
      · obtain ⟨m1, m2⟩ := seen_mem Hs.1
        obtain ⟨t1, t2⟩ := snd_sm (lo _ m1) (uo _ m2) Hs.2.1
        rw [← Hs.2.2.1] at t1 t2
        simp only [bfD]
        walk_at "w"
        refine ⟨_, _, _, _, rfl, mul_ok s1 t2 (by decide), mul_ok t1 s2 (by decide), ?_⟩
        walk_at "w"
        exact ⟨fun z => ⟨hM4, f', some (_, _, e, c), n', _, _, _, _, _, rfl, Hf', Hs.new hT t (fun _ _ _ _ y => by cases y; exact z), Hn'⟩, fun z => ⟨hM4, f', some (p, q, e', c'), n', _, _, _, _, _, rfl, Hf', Hs.keep hT t (by omega), Hn'⟩⟩
    · rintro γ' M2 ⟨hM2, f, s, n, y9, y10, y11, y12, y13, rfl, Hf, Hs, Hn⟩
      rw [List.length_map] at Hf Hs Hn
      have eT : Seen L U i U.length = Seen L U (i + 1) 0 := funext fun e => funext fun c => propext (seen_row e c)
      rw [eT] at Hf Hs Hn
      exact ⟨hM2, f, s, n, _, _, _, _, _, _, _, _, rfl, Hf, Hs, Hn⟩
  · rintro γ' _ ⟨rfl, f, s, n, y6, y7, y8, y9, y10, y11, y12, y13, rfl, Hf, Hs, Hn⟩
    rw [List.length_map] at Hf Hs Hn
    have eT : Seen L U L.length 0 = Mm L U := funext fun e => funext fun c => propext (seen_all e c)
    rw [eT] at Hf Hs Hn
    walk_at "w"
    exact fin_pure (hR L U f s n C Hf Hs Hn) (bars_pure f s n)
abbrev N_pieces_slopes : List Str := ["pieces", "first", "second", "never"]
theorem sc_pieces_slopes : FnScope N_pieces_slopes ["pieces"] (defScope s_pieces_slopes) := ⟨rfl, rfl, rfl, by decide +kernel, rfl, by decide +kernel, by decide +kernel⟩
structure IvSz (I : Iv) : Prop where
  ok : IOk I
  c1 : gcdI I.p1 I.q1 = 1
  c2 : gcdI I.p2 I.q2 = 1
  s1 : Sm 1003 I.p1
  s2 : Sm 1003 I.p2
  t1 : Sm 501 I.q1
  t2 : Sm 501 I.q2
theorem inI_lt {p1 q1 p2 q2 u v : Int} (q1' : 1 ≤ q1) (q2' : 1 ≤ q2) (h : InI ⟨p1, q1, p2, q2⟩ u v) : p1 * q2 < p2 * q1 := by
  have a : p1 * v < u * q1 := h.lo
  have b : u * q2 < p2 * v := h.hi
  have v1 := h.v1
  have m1 := Int.mul_lt_mul_of_pos_right a (show 0 < q2 by omega)
  have m2 := Int.mul_lt_mul_of_pos_right b (show 0 < q1 by omega)
  have : p1 * q2 * v < p2 * q1 * v := by grind
  exact Int.lt_of_mul_lt_mul_right this (by omega)
def S_pieces_slopes : DSp := fun ds M R _ => ∃ P : List Pc, ds = [.lst (P.map pcD)] ∧ (∀ p ∈ P, PcOk p) ∧ P ≠ [] ∧ P.length ≤ 12 ∧
  ((∀ u v, 1 ≤ v → ¬ SlP P u v) → R .non M) ∧ ((∀ u v, 1 ≤ v → SlP P u v) → R (.tup [.non, .non]) M) ∧ ∀ I, IvSz I → (∀ u v, 1 ≤ v → (SlP P u v ↔ InI I u v)) → R (.tup [.tup [.int I.p1, .int I.q1], .tup [.int I.p2, .int I.q2]]) M
theorem ok_pieces_slopes {P : Program} {w : World} {K : PySem.W.Frag} {mg : Str → Option Value} {base : Heap} {C f : Addr} {fd : FuncData} (T : Txt K mg) (F : FunD K "pieces_slopes" "pieces_slopes" (defArgs s_pieces_slopes) (defBody s_pieces_slopes) (defScope s_pieces_slopes) [] [] f fd) (h_check_pieces : CallOk P w K mg base C 3 "check_pieces" 1 S_check_pieces []) (h_bars_of : CallOk P w K mg base C 10 "bars_of" 1 S_bars_of []) (h_less : CallOk P w K mg base C 1 "less" 2 S_less []) : FnOk P w K mg base CX0 11 f fd ["pieces"] (spD ⟨K, C⟩ 1 S_pieces_slopes) := by
  have nd := sc_pieces_slopes.nd
  refine fn_ok 4 1 F sc_pieces_slopes (fun cdv A outer s H E hr =>
      (qss_cons (qs_expr (qc h_check_pieces hr (by decide) (qa_cons (qv 0) qa_nil)))
      (qss_cons (qs_asg (qc h_bars_of hr (by decide) (qa_cons (qv 0) qa_nil)) (qg_tup (n := 3) (qgs_cons (qg_name (i := 1) nd) (qgs_cons (qg_name (i := 2) nd) (qgs_cons (qg_name (i := 3) nd) qgs_nil)))))
      (qss_cons (qs_if (qt_notN (qv 3))
        (qss_one (qs_ret qn))
        qss_nil)
      (qss_cons (qs_if (qt_isN (qv 1))
        (qss_one (qs_ret (q_tup (qa_cons qn (qa_cons qn qa_nil)))))
        qss_nil)
      (qss_cons (qs_if (qt_not (qt_val (qc h_less hr (by decide) (qa_cons (q_ixC 0 (qv 1)) (qa_cons (q_ixC 0 (qv 2)) qa_nil)))))
        (qss_one (qs_ret qn))
        qss_nil)
      (qss_one (qs_ret (q_tup (qa_cons (q_ixC 0 (qv 1)) (qa_cons (q_ixC 0 (qv 2)) qa_nil))))))))))) ?_
  rintro ds M R - ⟨P, rfl, ok, ne, len, h0, h1, h2⟩
  walk_at "w"
  refine ⟨P, rfl, ne, len, fun p hp => (ok p hp).d.lh, ?_⟩
  walk_at "w"
  refine ⟨P, rfl, ok, by omega, fun L U f s n C Hf Hs Hn => ?_⟩
  obtain ⟨lo, uo⟩ := corn_sm C ok
  rcases n with _ | ⟨a, b⟩
  · rcases f with _ | ⟨p, q, e, c⟩
    · simp only [bfD, nvD]
      walk_at "w"
      exact fin_pure (h1 fun u v v1 => C.all ne Hn Hf v1)
    · rcases s with _ | ⟨p2, q2, e2, c2⟩
      · exact absurd Hs (C.snd Hf)
      obtain ⟨t1, t2⟩ := fst_sm (lo _ Hf.1.1) (uo _ Hf.1.2) Hf.2.1
      obtain ⟨t3, t4⟩ := snd_sm (lo _ Hs.1.1) (uo _ Hs.1.2) Hs.2.1
      have l1 := Hf.2.1
      have l2 := Hs.2.1
      obtain ⟨_, _, _, _, Q1, g1⟩ := fr_ok (p := e.2.1 - c.2.1 - 1) (q := e.1 - c.1) (by omega)
      obtain ⟨_, _, _, _, Q2, g2⟩ := fr_ok (p := c2.2.1 + 1 - e2.2.1) (q := c2.1 - e2.1) (by omega)
      rw [← Hf.2.2.1] at t1 t2 Q1 g1
      rw [← Hs.2.2.1] at t3 t4 Q2 g2
      simp only [bfD, nvD]
      walk_at "w"
      refine ⟨_, _, _, _, rfl, mul_ok t1 t4 (by decide), mul_ok t3 t2 (by decide), ?_⟩
      walk_at "w"
      refine ⟨fun z => fin_pure (h0 fun u v v1 sl => z ?_), fun z => fin_pure (h2 ⟨p, q, p2, q2⟩ ⟨⟨Q1, Q2, z⟩, g1, g2, t1, t3, t2, t4⟩ fun u v v1 => C.iv ne Hn Hf Hs v1)⟩
      exact inI_lt Q1 Q2 ((C.iv ne Hn Hf Hs v1).mp sl)
  · simp only [nvD, barD]
    walk_at "w"
    exact fin_pure (h0 fun u v v1 => C.never ne Hn v1)
abbrev N_check_base : List Str := ["base"]
theorem sc_check_base : FnScope N_check_base ["base"] (defScope s_check_base) := ⟨rfl, rfl, rfl, by decide +kernel, rfl, by decide +kernel, by decide +kernel⟩
def S_check_base : DSp := fun ds M R _ => ∃ b : Int, ds = [.int b] ∧ 2 ≤ b ∧ b ≤ 36 ∧ R .non M
theorem ok_check_base {P : Program} {w : World} {K : PySem.W.Frag} {mg : Str → Option Value} {base : Heap} {C f : Addr} {fd : FuncData} (T : Txt K mg) (F : FunD K "check_base" "check_base" (defArgs s_check_base) (defBody s_check_base) (defScope s_check_base) [] [] f fd) (h_is_whole : CallOk P w K mg base C 1 "is_whole" 1 S_is_whole []) : FnOk P w K mg base CX0 2 f fd ["base"] (spD ⟨K, C⟩ 1 S_check_base) := by
  have nd := sc_check_base.nd
  refine fn_ok 1 1 F sc_check_base (fun cdv A outer s H E hr =>
      (qss_one (qs_if (QW.qt (qw_or (qt_not (qt_val (qc h_is_whole hr (by decide) (qa_cons (qv 0) qa_nil)))) (qw_or (qt_cmp c_lt (qv 0) qi) (qw_or1 (qt_cmp c_gt (qv 0) qi)))))
        (qss_one qs_never)
        qss_nil))) ?_
  rintro ds M R - ⟨b, rfl, b2, b1, hR⟩
  walk_at "w"
  refine ⟨_, rfl, rfl, ?_⟩
  walk_at "w"
  exact ⟨fun h => by omega, fun _ => ⟨fun h => by omega, fun _ => fin_pure hR⟩⟩
abbrev N_inside : List Str := ["first", "second", "scale", "least", "most"]
theorem sc_inside : FnScope N_inside ["first", "second", "scale"] (defScope s_inside) := ⟨rfl, rfl, rfl, by decide +kernel, rfl, by decide +kernel, by decide +kernel⟩
def S_inside : DSp := fun ds M R _ => ∃ (I : Iv) (s : Int), ds = [.tup [.int I.p1, .int I.q1], .tup [.int I.p2, .int I.q2], .int s] ∧ IOk I ∧ Sm 1003 I.p1 ∧ Sm 1003 I.p2 ∧ Sm 501 I.q1 ∧ Sm 501 I.q2 ∧ Sm 13000 s ∧ 1 ≤ s ∧ ((∀ m, ¬ InI I m s) → R .non M) ∧ (InI I (lwM I.p1 I.q1 s) s → R (.tup [.int (lwM I.p1 I.q1 s), .int (moM I.p2 I.q2 s)]) M)
theorem ok_inside {P : Program} {w : World} {K : PySem.W.Frag} {mg : Str → Option Value} {base : Heap} {C f : Addr} {fd : FuncData} (T : Txt K mg) (F : FunD K "inside" "inside" (defArgs s_inside) (defBody s_inside) (defScope s_inside) [] [] f fd)  : FnOk P w K mg base CX0 1 f fd ["first", "second", "scale"] (spD ⟨K, C⟩ 3 S_inside) := by
  have nd := sc_inside.nd
  refine fn_ok 5 3 F sc_inside (fun cdv A outer s H E hr =>
      (qss_cons (qs_set (i := 3) nd (q_add (q_div (q_mul (q_ixC 0 (qv 0)) (qv 2)) (q_ixC 1 (qv 0))) qi))
      (qss_cons (qs_set (i := 4) nd (q_sub (q_neg (q_div (q_mul (q_neg (q_ixC 0 (qv 1))) (qv 2)) (q_ixC 1 (qv 1)))) qi))
      (qss_cons (qs_if (qt_cmp c_gt (qv 3) (qv 4))
        (qss_one (qs_ret qn))
        qss_nil)
      (qss_one (qs_ret (q_tup (qa_cons (qv 3) (qa_cons (qv 4) qa_nil))))))))) ?_
  rintro ds M R - ⟨I, s, rfl, ok, s1, s2, s3, s4, ss, hs, hN, hR⟩
  have q1 := ok.q1
  have q2 := ok.q2
  walk_at "w"
  refine ⟨mul_ok s1 ss (by decide), cd_ok (by omega) s3 (by decide), mul_ok s2.neg ss (by decide), cd_ok (by omega) s4 (by decide), ?_⟩
  refine ⟨fun c => fin_pure (hN fun m hm => ?_), fun c => fin_pure (hR ((in_iff ok hs).mpr ⟨Int.le_refl _, ?_⟩))⟩
  · have := (in_iff ok hs).mp hm
    unfold lwM moM at this
    omega
  · unfold lwM moM
    omega
abbrev N_power : List Str := ["base", "exponent", "found"]
theorem sc_power : FnScope N_power ["base", "exponent"] (defScope s_power) := ⟨rfl, rfl, rfl, by decide +kernel, rfl, by decide +kernel, by decide +kernel⟩
def S_power : DSp := fun ds M R _ => ∃ (b : Int) (k : Nat), ds = [.int b, .int k] ∧ 2 ≤ b ∧ b ≤ 36 ∧ k ≤ 2000 ∧ R (.int (b ^ k)) M
theorem ok_power {P : Program} {w : World} {K : PySem.W.Frag} {mg : Str → Option Value} {base : Heap} {C f : Addr} {fd : FuncData} (T : Txt K mg) (F : FunD K "power" "power" (defArgs s_power) (defBody s_power) (defScope s_power) [] [] f fd)  : FnOk P w K mg base CX0 1 f fd ["base", "exponent"] (spD ⟨K, C⟩ 2 S_power) := by
  have nd := sc_power.nd
  refine fn_ok 3 2 F sc_power (fun cdv A outer s H E hr =>
      (qss_cons (qs_set (i := 2) nd qi)
      (qss_cons (qs_while (qt_cmp c_gt (qv 1) qi)
        (qss_cons (qs_if (qt_cmp (c_eq hr) (q_mod (qv 1) qi) qi)
          (qss_one (qs_set (i := 2) nd (q_mul (qv 2) (qv 0))))
          qss_nil)
        (qss_one (qs_par (i := 0) (j := 1) nd (qa_cons (q_mul (qv 0) (qv 0)) (qa_cons (q_div (qv 1) qi) qa_nil))))))
      (qss_one (qs_ret (qv 2)))))) ?_
  rintro ds M R - ⟨b, k, rfl, b2, b1, hk, hR⟩
  have sP : Sm 12001 (b ^ k) := (pow_sm (by omega) b1 k).mono (by omega)
  walk_at "w"
  refine vWhile_of (fun m γ M' => M' = M ∧ ∃ (F B : Int), γ = [some (.int B), some (.int m), some (.int F)] ∧ 1 ≤ F ∧ 1 ≤ B ∧ F * B ^ m = b ^ k) ⟨k, rfl, 1, b, rfl, by omega, by omega, by rw [Int.one_mul]⟩ ?_
  rintro m γ' _ ⟨rfl, F, B, rfl, F1, B1, e⟩
  obtain ⟨hF, hB⟩ := pow_bound (E := m) F1 B1
  rw [e] at hF hB
  have sF : Sm 12001 F := sP.le (by omega) hF
  walk_at "w"
  refine ⟨fun hm => ?_, fun hm => ?_⟩
  · have sB : Sm 12001 B := sP.le (by omega) (hB (by omega))
    have hh := pow_half (F := F) (B := B) m
    have BB : 1 ≤ B * B := by have := Int.mul_le_mul B1 B1 (by omega) (by omega); omega
    have FB : 1 ≤ F * B := by have := Int.mul_le_mul F1 B1 (by omega) (by omega); omega
    have e2 : (m : Int) / 2 = (m / 2 : Nat) := by omega
    refine ⟨fun c => ⟨mul_ok sF sB (by decide), mul_ok sB sB (by decide), cdS (by decide) (by decide), m / 2, by omega, F * B, B * B, by rw [e2], FB, BB, ?_⟩, fun c => ⟨mul_ok sB sB (by decide), cdS (by decide) (by decide), m / 2, by omega, F, B * B, by rw [e2], F1, BB, ?_⟩⟩
    · rw [if_pos (by omega)] at hh; rw [hh, e]
    · rw [if_neg (by omega)] at hh; rw [hh, e]
  · have : m = 0 := by omega
    subst this
    rw [Int.pow_zero, Int.mul_one] at e
    rw [e]
    exact fin_pure hR
abbrev N_pieces_recipe : List Str := ["pieces", "base", "ends", "lowers", "uppers", "shift", "least", "most", "multiplier", "start", "number", "value", "index"]
theorem sc_pieces_recipe : FnScope N_pieces_recipe ["pieces", "base"] (defScope s_pieces_recipe) := ⟨rfl, rfl, rfl, by decide +kernel, rfl, by decide +kernel, by decide +kernel⟩
def stF (S m : Int) : D → D
  | .tup (.int n :: .int f :: _) => .int (S * f - m * n)
  | d => d
theorem stF_map (S m : Int) (L : List Co) : (((L.map coD).filter fun _ => true).map (stF S m)) = (L.map fun e => S * e.2.1 - m * e.1).map D.int := by
  rw [List.filter_eq_self.mpr (fun _ _ => rfl), List.map_map, List.map_map]
  rfl
def S_pieces_recipe : DSp := fun ds M R _ => ∃ (P : List Pc) (b : Int), ds = [.lst (P.map pcD), .int b] ∧ (∀ p ∈ P, PcOk p) ∧ P ≠ [] ∧ P.length ≤ 12 ∧ 2 ≤ b ∧ b ≤ 36 ∧
  ((∀ u v, 1 ≤ v → ¬ SlP P u v) → R .non M) ∧ ((∀ u v, 1 ≤ v → SlP P u v) → ∀ L U e r, CorN P P.length L U → L = e :: r → R (.tup [.int 0, .int e.2.1, .int 0]) M) ∧
  ∀ (I : Iv) (m w : Int) (k : Nat), IvSz I → (∀ u v, 1 ≤ v → (SlP P u v ↔ InI I u v)) → NoS I b k → InI I (lwM I.p1 I.q1 (b ^ k)) (b ^ k) → m = min (max (lwM I.p1 I.q1 (b ^ k)) 0) (moM I.p2 I.q2 (b ^ k)) → Sm 2900 m → OkP P m w (b ^ k) → (∀ w', OkP P m w' (b ^ k) → w ≤ w') → R (.tup [.int m, .int w, .int k]) M
theorem ok_pieces_recipe {P : Program} {w : World} {K : PySem.W.Frag} {mg : Str → Option Value} {base : Heap} {C f : Addr} {fd : FuncData} (T : Txt K mg) (F : FunD K "pieces_recipe" "pieces_recipe" (defArgs s_pieces_recipe) (defBody s_pieces_recipe) (defScope s_pieces_recipe) [] [("base", .int (2))] f fd) (h_pieces_slopes : CallOk P w K mg base C 11 "pieces_slopes" 1 S_pieces_slopes []) (h_check_base : CallOk P w K mg base C 2 "check_base" 1 S_check_base []) (h_corners : CallOk P w K mg base C 9 "corners" 1 S_corners []) (h_inside : CallOk P w K mg base C 1 "inside" 3 S_inside []) (h_power : CallOk P w K mg base C 1 "power" 2 S_power []) : FnOk P w K mg base CX0 12 f fd ["pieces", "base"] (spD ⟨K, C⟩ 2 S_pieces_recipe) := by
  have nd := sc_pieces_recipe.nd
  refine fn_ok 13 2 F sc_pieces_recipe (fun cdv A outer s H E hr =>
      (qss_cons (qs_set (i := 2) nd (qc h_pieces_slopes hr (by decide) (qa_cons (qv 0) qa_nil)))
      (qss_cons (qs_expr (qc h_check_base hr (by decide) (qa_cons (qv 1) qa_nil)))
      (qss_cons (qs_if (qt_isN (qv 2))
        (qss_one (qs_ret qn))
        qss_nil)
      (qss_cons (qs_asg (qc h_corners hr (by decide) (qa_cons (qv 0) qa_nil)) (qg_tup (n := 2) (qgs_cons (qg_name (i := 3) nd) (qgs_cons (qg_name (i := 4) nd) qgs_nil))))
      (qss_cons (qs_if (qt_isN (q_ixC 0 (qv 2)))
        (qss_one (qs_ret (q_tup (qa_cons qi (qa_cons (q_ixC 1 (q_ixC 0 (qv 3))) (qa_cons qi qa_nil))))))
        qss_nil)
      (qss_cons (qs_set (i := 5) nd qi)
      (qss_cons (qs_while (qt_isN (qc h_inside hr (by decide) (qa_cons (q_ixC 0 (qv 2)) (qa_cons (q_ixC 1 (qv 2)) (qa_cons (qc h_power hr (by decide) (qa_cons (qv 1) (qa_cons (qv 5) qa_nil))) qa_nil)))))
        (qss_one (qs_augG ip_add (i := 5) nd qi)))
      (qss_cons (qs_asg (qc h_inside hr (by decide) (qa_cons (q_ixC 0 (qv 2)) (qa_cons (q_ixC 1 (qv 2)) (qa_cons (qc h_power hr (by decide) (qa_cons (qv 1) (qa_cons (qv 5) qa_nil))) qa_nil)))) (qg_tup (n := 2) (qgs_cons (qg_name (i := 6) nd) (qgs_cons (qg_name (i := 7) nd) qgs_nil))))
      (qss_cons (qs_set (i := 8) nd (q_cb b_min2 rfl T.b_min bb_min (qa_cons (q_cb b_max2 rfl T.b_max bb_max (qa_cons (qv 6) (qa_cons qi qa_nil))) (qa_cons (qv 7) qa_nil))))
      (qss_cons (qs_set (i := 9) nd (q_cb b_max1 rfl T.b_max bb_max (qa_cons (q_lc (own := [("number", 10), ("value", 11), ("index", 12)]) nd (qi_list (qv 3)) (blkOk_by (own := [("number", 10), ("value", 11), ("index", 12)]) (N := N_pieces_recipe) (sc := defScope s_pieces_recipe) (by decide +kernel)) (fun _ _ _ _ _ => (qgw_tup (n := 3) (qgsw_cons (qgw_name (i := 10) nd) (qgsw_cons (qgw_name (i := 11) nd) (qgsw_cons (qgw_name (i := 12) nd) qgsw_nil))))) (fun _ _ _ _ _ => qts_nil) (fun _ _ _ _ _ => (q_sub (q_mul (qc h_power hr (by decide) (qa_cons (qv 1) (qa_cons (qv 5) qa_nil))) (qv 11)) (q_mul (qv 8) (qv 10))))) qa_nil)))
      (qss_one (qs_ret (q_tup (qa_cons (qv 8) (qa_cons (qv 9) (qa_cons (qv 5) qa_nil))))))))))))))))) ?_
  rintro ds M R - ⟨P, b, rfl, ok, ne, len, b2, b36, h0, h1, h2⟩
  walk_at "w"
  refine ⟨P, rfl, ok, ne, len, fun no => ?_, fun al => ?_, fun I sz iv => ?_⟩
  · walk_at "w"
    refine ⟨b, rfl, b2, b36, ?_⟩
    walk_at "w"
    exact fin_pure (h0 no)
  · walk_at "w"
    refine ⟨b, rfl, b2, b36, ?_⟩
    walk_at "w"
    refine ⟨P, rfl, ok, by omega, fun L U C => ?_⟩
    have Ln : L ≠ [] := C.ne (by cases P with
      | nil => exact absurd rfl ne
      | cons _ _ => simp)
    cases L with
    | nil => exact absurd rfl Ln
    | cons e r =>
      simp only [List.map_cons, coD]
      walk_at "w"
      exact fin_pure (h1 al _ _ _ _ C rfl)
  · walk_at "w"
    refine ⟨b, rfl, b2, b36, ?_⟩
    walk_at "w"
    refine ⟨P, rfl, ok, by omega, fun L U C => ?_⟩
    have Ln : L ≠ [] := C.ne (by cases P with
      | nil => exact absurd rfl ne
      | cons _ _ => simp)
    obtain ⟨lo, uo⟩ := corn_sm C ok
    walk_at "w"
    have hok := sz.ok
    have P1 : ∀ j : Nat, 1 ≤ b ^ j := fun j => pow_one_le (by omega) j
    have Ll : L.length < sizeLine := Nat.lt_of_le_of_lt (show L.length ≤ 2000 by have := C.ln; omega) (show 2000 < sizeLine by decide)
    refine vWhile_of (fun m γ M' => M' = M ∧ ∃ j : Nat, γ = [some (.lst (P.map pcD)), some (.int b), some (.tup [.tup [.int I.p1, .int I.q1], .tup [.int I.p2, .int I.q2]]), some (.lst (L.map coD)), some (.lst (U.map coD)), some (.int j), none, none, none, none, none, none, none] ∧ NoS I b j ∧ m = 1004 - j) ⟨1004, rfl, 0, rfl, fun j hj => by omega, rfl⟩ ?_
    rintro m γ' _ ⟨rfl, j, rfl, no, rfl⟩
    obtain ⟨sj, hj⟩ := no.sm hok sz.t1 sz.t2 b2 b36
    walk_at "w"
    refine ⟨b, j, rfl, b2, b36, by omega, ?_⟩
    walk_at "w"
    refine ⟨I, b ^ j, rfl, hok, sz.s1, sz.s2, sz.t1, sz.t2, sj.mono (by decide), P1 j, fun hno => ?_, fun hin => ?_⟩
    · walk_at "w"
      refine ⟨1004 - (j + 1), by omega, j + 1, rfl, fun i hi => ?_, rfl⟩
      rcases Nat.lt_or_ge i j with c | c
      · exact no i c
      · obtain rfl : i = j := by omega
        exact hno
    · walk_at "w"
      refine ⟨b, j, rfl, b2, b36, by omega, ?_⟩
      walk_at "w"
      refine ⟨I, b ^ j, rfl, hok, sz.s1, sz.s2, sz.t1, sz.t2, sj.mono (by decide), P1 j, fun hno => absurd hin (hno _), fun _ => ?_⟩
      walk_at "w"
      have s1 : Sm 1 1 := by decide
      have sl : Sm 2900 (lwM I.p1 I.q1 (b ^ j)) := (Sm.add (a := 2011) ((Sm.mul sz.s1 sj).div (by have : 1 ≤ I.q1 := hok.q1; omega)) (s1.mono (by decide))).mono (by decide)
      have lm := (in_iff hok (P1 j)).mp hin
      have h2' := h2 I (min (max (lwM I.p1 I.q1 (b ^ j)) 0) (moM I.p2 I.q2 (b ^ j)))
      have eM : (if moM I.p2 I.q2 (b ^ j) < (if 0 > lwM I.p1 I.q1 (b ^ j) then 0 else lwM I.p1 I.q1 (b ^ j)) then moM I.p2 I.q2 (b ^ j) else (if 0 > lwM I.p1 I.q1 (b ^ j) then 0 else lwM I.p1 I.q1 (b ^ j))) = min (max (lwM I.p1 I.q1 (b ^ j)) 0) (moM I.p2 I.q2 (b ^ j)) := by
        generalize lwM I.p1 I.q1 (b ^ j) = A
        generalize moM I.p2 I.q2 (b ^ j) = B
        split <;> split <;> omega
      simp only [eM]
      have inm : InI I (min (max (lwM I.p1 I.q1 (b ^ j)) 0) (moM I.p2 I.q2 (b ^ j))) (b ^ j) := (in_iff hok (P1 j)).mpr (by omega)
      have sm : Sm 2900 (min (max (lwM I.p1 I.q1 (b ^ j)) 0) (moM I.p2 I.q2 (b ^ j))) := by
        rcases Int.lt_or_le (lwM I.p1 I.q1 (b ^ j)) 0 with z | z
        · exact sm_between sl ((show Sm 1 0 by decide).mono (by decide)) (by omega) (by omega)
        · rw [show min (max (lwM I.p1 I.q1 (b ^ j)) 0) (moM I.p2 I.q2 (b ^ j)) = lwM I.p1 I.q1 (b ^ j) by omega]; exact sl
      have h2'' := fun w => h2' w j sz iv no hin rfl sm
      clear h2' eM
      generalize min (max (lwM I.p1 I.q1 (b ^ j)) 0) (moM I.p2 I.q2 (b ^ j)) = m at *
      obtain ⟨w0, hw0⟩ := (iv m (b ^ j) (P1 j)).mpr inm
      refine mf_list (fun _ => true) (stF (b ^ j) m) (L.map coD) (fun F z => by walk_at "w"; exact z) (by rw [List.length_map]; exact Ll) (fun d hd _ => by obtain ⟨e, _, rfl⟩ := List.mem_map.mp hd; rfl) ?_ ?_
      · intro i d' pp acc P1' Q hd hpp hP hQ
        obtain ⟨e, he, rfl⟩ := List.mem_map.mp (List.mem_of_getElem? hd)
        have e1 := lo e he
        simp only [coD]
        walk_at "w"
        refine ⟨b, j, rfl, b2, b36, by omega, ?_⟩
        walk_at "w"
        exact ⟨mul_ok sj e1.f (by decide), mul_ok sm e1.n (by decide), hP rfl⟩
      rw [stF_map]
      walk_at "w"
      refine ⟨by simp; exact List.length_pos_iff.mpr Ln, fun w hw le => ?_⟩
      obtain ⟨e, he, rfl⟩ := List.mem_map.mp hw
      obtain ⟨k1, k2⟩ := (C.ok (P1 j)).mp hw0
      refine fin_pure (h2'' _ ((C.ok (P1 j)).mpr ⟨fun d hd => ?_, fun c hc => ?_⟩) fun w' hw' => ?_)
      · have := le _ (List.mem_map.mpr ⟨d, hd, rfl⟩)
        omega
      · have := k1 e he
        have := k2 c hc
        omega
      · have := ((C.ok (P1 j)).mp hw').1 e he
        omega
abbrev N_Library_together : List Str := ["self", "names", "name"]
theorem sc_Library_together : FnScope N_Library_together ["self", "names"] (defScope s_Library_together) := ⟨rfl, rfl, rfl, by decide +kernel, rfl, by decide +kernel, by decide +kernel⟩
theorem lkp_each {kv : Kpt} : ∀ {ns : List Str} {P : List Pc} {i : Nat} {n : Str}, ns.map (lkp kv) = P.map some → ns[i]? = some n → ∃ p, lkp kv n = some p ∧ P[i]? = some p
  | [], _, _, _, _, h => by simp at h
  | y :: r, [], _, _, h, _ => by simp at h
  | y :: r, p :: t, 0, n, h, e => by
    simp at h e
    subst e
    exact ⟨p, h.1, rfl⟩
  | y :: r, p :: t, i + 1, n, h, e => by
    simp only [List.map_cons, List.cons.injEq] at h
    obtain ⟨q, h1, h2⟩ := lkp_each (i := i) h.2 (by simpa using e)
    exact ⟨q, h1, by simpa using h2⟩
def gtD (kv : Kpt) : D → D
  | .str n => oldD (lkp kv n)
  | d => d
theorem gtD_map {kv : Kpt} : ∀ {ns : List Str} {P : List Pc}, ns.map (lkp kv) = P.map some → ((ns.map D.str).filter fun _ => true).map (gtD kv) = P.map pcD
  | [], [], _ => rfl
  | [], _ :: _, h => by simp at h
  | _ :: _, [], h => by simp at h
  | y :: r, p :: t, h => by
    simp only [List.map_cons, List.cons.injEq] at h
    have ih := gtD_map h.2
    rw [List.filter_eq_self.mpr (fun _ _ => rfl)] at ih
    rw [List.filter_eq_self.mpr (fun _ _ => rfl), List.map_cons, List.map_cons, List.map_cons, ih]
    show oldD (lkp kv y) :: _ = _
    rw [h.1]
    rfl
def S_Library_together : DSp := fun ds M R _ => ∃ (x b : Addr) (kv : Kpt) (ns : List Str) (P : List Pc), ds = [.own x, .tup (ns.map .str)] ∧ M x = some (lbO kv b) ∧ ns.map (lkp kv) = P.map some ∧ (∀ p ∈ P, PcOk p) ∧ P ≠ [] ∧ P.length ≤ 12 ∧
  ((∀ u v, 1 ≤ v → ¬ SlP P u v) → R .non M) ∧ ((∀ u v, 1 ≤ v → SlP P u v) → ∀ L U e r, CorN P P.length L U → L = e :: r → R (.tup [.int 0, .int e.2.1, .int 0]) M) ∧
  ∀ (I : Iv) (m w : Int) (k : Nat), IvSz I → (∀ u v, 1 ≤ v → (SlP P u v ↔ InI I u v)) → NoS I 2 k → InI I (lwM I.p1 I.q1 (2 ^ k)) (2 ^ k) → m = min (max (lwM I.p1 I.q1 (2 ^ k)) 0) (moM I.p2 I.q2 (2 ^ k)) → Sm 2900 m → OkP P m w (2 ^ k) → (∀ w', OkP P m w' (2 ^ k) → w ≤ w') → R (.tup [.int m, .int w, .int k]) M
theorem ok_Library_together {P : Program} {w : World} {K : PySem.W.Frag} {mg : Str → Option Value} {base : Heap} {C f : Addr} {fd : FuncData} (T : Txt K mg) (F : FunD K "together" "Library.together" (defArgs s_Library_together) (defBody s_Library_together) (defScope s_Library_together) [] [] f fd) (hmo_Library_check_kept_1 : MOkO P w K mg base C 1 "Library" "check_kept" 2 S_Library_check_kept []) (h_pieces_recipe_1 : CallOk P w K mg base C 12 "pieces_recipe" 2 S_pieces_recipe [.int (2)]) (oc_Library : OCls K "Library") : FnR P w K mg base CX0 13 f (spV ⟨K, C⟩ 13 S_Library_together) := by
  have nd := sc_Library_together.nd
  refine fn_okV 3 13 F sc_Library_together (by decide) (fun _ _ _ _ _ _ _ rest hl => match rest, hl with | [], _ => rfl | [_], _ => rfl | [_, _], _ => rfl | [_, _, _], _ => rfl | [_, _, _, _], _ => rfl | [_, _, _, _, _], _ => rfl | [_, _, _, _, _, _], _ => rfl | [_, _, _, _, _, _, _], _ => rfl | [_, _, _, _, _, _, _, _], _ => rfl | [_, _, _, _, _, _, _, _, _], _ => rfl | [_, _, _, _, _, _, _, _, _, _], _ => rfl | [_, _, _, _, _, _, _, _, _, _, _], _ => rfl | [_, _, _, _, _, _, _, _, _, _, _, _], _ => rfl | [_, _, _, _, _, _, _, _, _, _, _, _, _], _ => rfl | _ :: _ :: _ :: _ :: _ :: _ :: _ :: _ :: _ :: _ :: _ :: _ :: _ :: _ :: _, hl => absurd hl (by simp)) (fun cdv A outer s H E hr =>
      (qss_cons (qs_if (qt_not (qt_chain c_le c_le qi (q_cb b_len rfl T.b_len bb_len (qa_cons (qv 1) qa_nil)) qi))
        (qss_one qs_never)
        qss_nil)
      (qss_cons (qs_for (qi_tup (qv 1)) (qg_name (i := 2) nd)
        (qss_one (qs_expr (q_methO hmo_Library_check_kept_1 hr (by decide) (qv 0) (qa_cons (qv 2) qa_nil)))))
      (qss_one (qs_ret (qc h_pieces_recipe_1 hr (by decide) (qa_cons (q_lc (own := [("name", 2)]) nd (qi_tup (qv 1)) (blkOk_by (own := [("name", 2)]) (N := N_Library_together) (sc := defScope s_Library_together) (by decide +kernel)) (fun _ _ _ _ _ => (qgw_name (i := 2) nd)) (fun _ _ _ _ _ => qts_nil) (fun _ _ _ _ _ => (q_dget hr (q_fldO oc_Library 0 (by decide +kernel) (qv 0)) (qv 2)))) qa_nil))))))) ?_
  rintro ds M R - ⟨x, b, kv, ns, P, rfl, hx, hn, ok, ne, le, h1, h2, h3⟩
  have ln : ns.length = P.length := by
    have := congrArg List.length hn
    simpa using this
  have l1 : 1 ≤ P.length := List.length_pos_iff.mpr ne
  walk_at "w"
  rw [List.length_map, ln]
  refine ⟨fun _ => ⟨fun c => absurd (show (P.length : Int) ≤ 12 by omega) c, fun _ => ?_⟩, fun c => absurd (show 1 ≤ (P.length : Int) by omega) c⟩
  refine vfor_tup (ns.map D.str) (fun F z => by walk_at "w"; exact z) (fun i γ My => My = M ∧ ∃ y, γ = [some (.own x), some (.tup (ns.map D.str)), y]) ⟨rfl, none, rfl⟩ ?_ ?_
  · rintro i d _ My ⟨hM, y, rfl⟩ hd
    subst My
    rw [List.getElem?_map, Option.map_eq_some_iff] at hd
    obtain ⟨n, hd, rfl⟩ := hd
    obtain ⟨p, hp, _⟩ := lkp_each hn hd
    walk_at "w"
    rw [hx]
    unfold lbO
    walk_at "w"
    refine ⟨x, b, kv, n, rfl, hx, by rw [hp]; rfl, ?_⟩
    walk_at "w"
    exact ⟨_, rfl⟩
  · rintro _ My ⟨hM, y, rfl⟩
    subst My
    walk_at "w"
    refine mf_tup (fun _ => true) (gtD kv) (ns.map D.str) (fun F z => by walk_at "w"; exact z) ?_ ?_ ?_ ?_
    · rw [List.length_map, ln]
      exact Nat.lt_of_le_of_lt le (by decide)
    · intro d hd _
      obtain ⟨n, _, rfl⟩ := List.mem_map.mp hd
      exact pure_oldD _
    · intro i d p acc P' Q hd hpp hP hQ
      rw [List.getElem?_map, Option.map_eq_some_iff] at hd
      obtain ⟨n, hd, rfl⟩ := hd
      obtain ⟨e, hp, _⟩ := lkp_each hn hd
      have nx : x ≠ p := fun z => by rw [← z, hx] at hpp; cases hpp
      walk_at "w"
      rw [mset_ne nx, hx]
      unfold lbO
      walk_at "w"
      rw [dVal_kept, hp]
      have := hP rfl
      unfold gtD at this
      simp only [hp, oldD] at this
      exact this
    rw [gtD_map hn]
    refine ⟨P, 2, rfl, ok, ne, le, by decide, by decide, fun no => fin_pure (h1 no), fun all L U e r c el => fin_pure (h2 all L U e r c el), fun I m w k a1 a2 a3 a4 a5 a6 a7 a8 => ?_⟩
    exact fin_pure (h3 I m w k a1 a2 a3 a4 a5 a6 a7 a8)
abbrev N__law_together_right : List Str := ["_law_library", "_law_kept", "_law_names_here", "_law_some", "_law_told", "_law_name"]
theorem sc__law_together_right : FnScope N__law_together_right ["_law_library", "_law_kept", "_law_names_here"] (defScope s__law_together_right) := ⟨rfl, rfl, rfl, by decide +kernel, rfl, by decide +kernel, by decide +kernel⟩
theorem use_tog {x b : Addr} {kv : Kpt} {ns : List Str} {P : List Pc} {M : Mem} {R : DR} {X : DX} (hx : M x = some (lbO kv b)) (hn : ns.map (lkp kv) = P.map some) (ok : ∀ p ∈ P, PcOk p) (ne : P ≠ []) (len : P.length ≤ 12) (lt : ∃ e ∈ P, e.2.1 < e.2.2) (h : ∀ r, PRes P r → R r M) : S_Library_together [.own x, .tup (ns.map .str)] M R X := by
  obtain ⟨e, he, lt⟩ := lt
  refine ⟨x, b, kv, ns, P, rfl, hx, hn, ok, ne, len, fun no => h _ (.inl ⟨no, rfl⟩), fun all => ?_, fun I m w k sz iv no hin em _ okw mn => h _ (.inr ⟨I, m, w, k, sz.ok, iv, no, hin, em, okw, mn, rfl⟩)⟩
  obtain ⟨u, v, v1, n⟩ := not_all he (ok e he).1.o1 lt
  exact absurd (all u v v1) n
theorem use_prs {P : List Pc} {M : Mem} {R : DR} {X : DX} (ok : ∀ p ∈ P, PcOk p) (ne : P ≠ []) (len : P.length ≤ 12) (lt : ∃ e ∈ P, e.2.1 < e.2.2) (h : ∀ r, PRes P r → R r M) : S_pieces_recipe [.lst (P.map pcD), .int 2] M R X := by
  obtain ⟨e, he, lt⟩ := lt
  refine ⟨P, 2, rfl, ok, ne, len, by decide, by decide, fun no => h _ (.inl ⟨no, rfl⟩), fun all => ?_, fun I m w k sz iv no hin em _ okw mn => h _ (.inr ⟨I, m, w, k, sz.ok, iv, no, hin, em, okw, mn, rfl⟩)⟩
  obtain ⟨u, v, v1, n⟩ := not_all he (ok e he).1.o1 lt
  exact absurd (all u v v1) n
theorem ex_P96 {kv : Kpt} {Q : Pc → Prop} : ∀ {qs : List Str}, (∀ q ∈ qs, ∃ e, lkp kv q = some e ∧ Q e) → ∃ P : List Pc, qs.map (lkp kv) = P.map some ∧ ∀ e ∈ P, Q e
  | [], _ => ⟨[], rfl, by simp⟩
  | q :: r, h => by
    obtain ⟨e, h1, h2⟩ := h q (by simp)
    obtain ⟨P, h3, h4⟩ := ex_P96 (qs := r) fun q' hq => h q' (by simp [hq])
    refine ⟨e :: P, by simp [h1, h3], fun e' he => ?_⟩
    rcases List.mem_cons.mp he with rfl | he
    · exact h2
    · exact h4 _ he
theorem E96.pc {e : Pc} (h : E96 e) : PcOk e := by
  have := h.t0; have := h.t1; have := h.p0; have := h.p1; have := h.o1; have := h.o9; have := h.l0; have := h.lt; have := h.h1
  have sm : ∀ i : Int, -1000 ≤ i → i ≤ 1000 → Sm 40 i := fun i a b => sm_of (by omega) (by omega)
  exact ⟨⟨h.o1, (sm _ (by omega) (by omega)).mono (by decide), (sm _ (by omega) (by omega)).mono (by decide), (sm _ (by omega) (by omega)).mono (by decide), (sm _ (by omega) (by omega)).mono (by decide), (sm _ (by omega) (by omega)).mono (by decide), by omega⟩, (sm _ (by omega) (by omega)).mono (by decide)⟩
def keptB (kv : Kpt) : D → Bool
  | .str n => (lkp kv n).isSome
  | _ => false
theorem kept_map (kv : Kpt) (nms : List Str) : ((nms.map D.str).filter (keptB kv)).map (fun d => d) = (nms.filter fun n => (lkp kv n).isSome).map D.str := by
  rw [List.filter_map, List.map_map]
  rfl
theorem eqG_nilL {f : Bool → Bool} {M : Mem} {R : DR} {d : D} {ds : List D} (h : cmpD 64 (.lst (d :: ds)) = true) (h1 : R (.bl (f false)) M) : oEqG f (.lst (d :: ds)) (.lst []) M R := by
  obtain ⟨p, e, s, r⟩ := shaped_of h
  refine eqG_of (p := p) (q := .list []) (toPt_pure e) rfl s (by decide) ?_
  unfold toP at e
  cases q : toPL (d :: ds) with
  | none => rw [q] at e; cases e
  | some ps =>
    rw [q] at e
    cases e
    unfold toPL at q
    split at q
    · cases q; exact h1
    · cases q
theorem l12 {α : Type} {l : List α} (h : l.length = 12) : ∃ a b c d e f g i j k m n, l = [a, b, c, d, e, f, g, i, j, k, m, n] := by
  match l, h with
  | [a, b, c, d, e, f, g, i, j, k, m, n], _ => exact ⟨a, b, c, d, e, f, g, i, j, k, m, n, rfl⟩
theorem rep12 (L : List Str) : ∃ qs : List Str, cutD (List.replicate 12 (cutD (L.map D.str) none (some 12))).flatten none (some 12) = qs.map .str ∧ (qs = [] ∨ qs.length = 12) ∧ ∀ q ∈ qs, q ∈ L := by
  refine ⟨((List.replicate 12 (L.take 12)).flatten).take 12, ?_, ?_, fun q hq => ?_⟩
  · rw [cut_to _ _ (by decide), cut_to _ _ (by decide)]
    show List.take 12 (List.replicate 12 ((L.map D.str).take 12)).flatten = _
    rw [List.map_take, List.map_flatten, List.map_replicate, List.map_take]
  · have e : ((List.replicate 12 (L.take 12)).flatten).length = 12 * (L.take 12).length := by
      rw [List.length_flatten, List.map_replicate, List.sum_replicate_nat]
    cases c : (L.take 12).length with
    | zero =>
      refine .inl (List.length_eq_zero_iff.mp ?_)
      rw [List.length_take, e, c]
      rfl
    | succ n =>
      refine .inr ?_
      rw [List.length_take, e, c]
      omega
  · obtain ⟨l, hl, hq⟩ := List.mem_flatten.mp (List.mem_of_mem_take hq)
    obtain rfl := List.eq_of_mem_replicate hl
    exact List.mem_of_mem_take hq
def S__law_together_right : DSp := fun ds M R _ => ∃ (x b k : Addr) (nms : List Str) (kv : Kpt) (ks : List Key) (es : List D), ds = [.own x, .own k, .lst (nms.map .str)] ∧ M x = some (lbO kv b) ∧ M k = some (.dct ks es) ∧ KdOk ks es (lkp kv) ∧ nms.length = 40 ∧ (∀ n ∈ nms, GoodN n) ∧ (∀ n e, lkp kv n = some e → E96 e) ∧ R (.bl true) M
theorem ok__law_together_right {P : Program} {w : World} {K : PySem.W.Frag} {mg : Str → Option Value} {base : Heap} {C f : Addr} {fd : FuncData} (T : Txt K mg) (F : FunD K "_law_together_right" "_law_together_right" (defArgs s__law_together_right) (defBody s__law_together_right) (defScope s__law_together_right) [] [] f fd) (hmv_Library_together : MVOk P w K mg base C 13 "Library" "together" 13 S_Library_together) (h_pieces_recipe_1 : CallOk P w K mg base C 12 "pieces_recipe" 2 S_pieces_recipe [.int (2)]) : FnOk P w K mg base CX0 14 f fd ["_law_library", "_law_kept", "_law_names_here"] (spD ⟨K, C⟩ 3 S__law_together_right) := by
  have nd := sc__law_together_right.nd
  refine fn_ok 6 3 F sc__law_together_right (fun cdv A outer s H E hr =>
      (qss_cons (qs_set (i := 3) nd (q_sl (q_lc (own := [("_law_name", 5)]) nd (qi_list (qv 2)) (blkOk_by (own := [("_law_name", 5)]) (N := N__law_together_right) (sc := defScope s__law_together_right) (by decide +kernel)) (fun _ _ _ _ _ => (qgw_name (i := 5) nd)) (fun _ _ _ _ _ => (qts_one (qt_cmp (c_inDct hr) (qv 5) (qv 1)))) (fun _ _ _ _ _ => (qv 5))) qo_none (qo_some qi)))
      (qss_cons (qs_set (i := 3) nd (q_sl (q_rep (qv 3) qi) qo_none (qo_some qi)))
      (qss_cons (qs_if (qt_cmp (c_eq hr) (qv 3) (q_lst qa_nil))
        (qss_one (qs_ret qb))
        qss_nil)
      (qss_cons (qs_set (i := 4) nd (q_methV hmv_Library_together hr (by decide) (qv 0) (qa_cons (q_ixC 0 (qv 3)) (qa_cons (q_ixC 1 (qv 3)) (qa_cons (q_ixC 2 (qv 3)) (qa_cons (q_ixC 3 (qv 3)) (qa_cons (q_ixC 4 (qv 3)) (qa_cons (q_ixC 5 (qv 3)) (qa_cons (q_ixC 6 (qv 3)) (qa_cons (q_ixC 7 (qv 3)) (qa_cons (q_ixC 8 (qv 3)) (qa_cons (q_ixC 9 (qv 3)) (qa_cons (q_ixC 10 (qv 3)) (qa_cons (q_ixC 11 (qv 3)) qa_nil))))))))))))))
      (qss_one (qs_ret (q_cmp (c_eq hr) (qv 4) (qc h_pieces_recipe_1 hr (by decide) (qa_cons (q_lc (own := [("_law_name", 5)]) nd (qi_list (qv 3)) (blkOk_by (own := [("_law_name", 5)]) (N := N__law_together_right) (sc := defScope s__law_together_right) (by decide +kernel)) (fun _ _ _ _ _ => (qgw_name (i := 5) nd)) (fun _ _ _ _ _ => qts_nil) (fun _ _ _ _ _ => (q_dget hr (qv 1) (qv 5)))) qa_nil)))))))))) ?_
  rintro ds M R - ⟨x, b, k, nms, kv, ks, es, rfl, hx, hk, kd, nl, gn, en, hR⟩
  walk_at "w"
  have s40 : (40 : Nat) < sizeLine := by decide
  refine mf_list (keptB kv) (fun d => d) (nms.map D.str) (fun F z => by walk_at "w"; exact z) (by rw [List.length_map]; omega) (fun d hd _ => by
    obtain ⟨n, _, rfl⟩ := List.mem_map.mp hd
    rfl) ?_ ?_
  · intro i d r acc P Q hd hr hP hQ
    rw [List.getElem?_map, Option.map_eq_some_iff] at hd
    obtain ⟨n, hd, rfl⟩ := hd
    have kr : k ≠ r := fun z => by rw [← z, hk] at hr; cases hr
    walk_at "w"
    rw [f_inDct rfl (dctI_own (by rw [mset_ne kr]; exact hk)), inNm_kd kd]
    walk_at "w"
    exact ⟨fun c => hP c, fun c => hQ c⟩
  rw [kept_map]
  walk_at "w"
  obtain ⟨qs, eq, ql, qm⟩ := rep12 (nms.filter fun n => (lkp kv n).isSome)
  have len1 : (cutD (List.map D.str (List.filter (fun n => (lkp kv n).isSome) nms)) none (some 12)).length * 12 ≤ sizeLine := by
    rw [cut_to _ _ (by decide), List.length_take]
    refine Nat.le_trans (Nat.mul_le_mul_right 12 (Nat.min_le_left _ _)) ?_
    decide
  rw [eq]
  refine ⟨by decide, len1, ?_⟩
  rcases ql with rfl | ql
  · refine eqG_self (d := .lst []) rfl ⟨fun _ => fin_pure hR, fun z => (by cases z)⟩
  obtain ⟨q0, q1, q2, q3, q4, q5, q6, q7, q8, q9, qa, qb, rfl⟩ := l12 ql
  have hk1 : ∀ q ∈ [q0, q1, q2, q3, q4, q5, q6, q7, q8, q9, qa, qb], ∃ e, lkp kv q = some e ∧ (E96 e) := fun q hq => by
    obtain ⟨e, he⟩ := Option.isSome_iff_exists.mp (List.mem_filter.mp (qm q hq)).2
    exact ⟨e, he, en q e he⟩
  have hg1 : ∀ q ∈ [q0, q1, q2, q3, q4, q5, q6, q7, q8, q9, qa, qb], GoodN q := fun q hq => gn q (List.mem_filter.mp (qm q hq)).1
  obtain ⟨P, eP, hP⟩ := ex_P96 hk1
  have lP : P.length = 12 := by simpa using (congrArg List.length eP).symm
  have okP : ∀ e ∈ P, PcOk e := fun e he => (hP e he).pc
  have ne : P ≠ [] := fun z => by rw [z] at lP; cases lP
  have lt : ∃ e ∈ P, e.2.1 < e.2.2 := by
    obtain ⟨e, he⟩ := List.exists_mem_of_ne_nil P ne
    exact ⟨e, he, (hP e he).lt⟩
  refine eqG_nilL (by show cmpL 63 _ = true; exact cmp_names 62 hg1) ⟨fun z => (by cases z), fun _ => ?_⟩
  rw [hx]
  unfold lbO
  walk_at "w"
  refine ⟨by decide, use_tog (ns := [q0, q1, q2, q3, q4, q5, q6, q7, q8, q9, qa, qb]) hx eP okP ne (by omega) lt fun r hr => ?_⟩
  refine mf_list (fun _ => true) (gtD kv) ([q0, q1, q2, q3, q4, q5, q6, q7, q8, q9, qa, qb].map D.str) (fun F z => by walk_at "w"; exact z) (by rw [List.length_map]; exact Nat.lt_trans (show 12 < 40 by decide) s40) ?_ ?_ ?_
  · intro d hd _
    obtain ⟨n, _, rfl⟩ := List.mem_map.mp hd
    exact pure_oldD _
  · intro i d r acc P' Q hd hrr hP' hQ'
    rw [List.getElem?_map, Option.map_eq_some_iff] at hd
    obtain ⟨n, hd, rfl⟩ := hd
    obtain ⟨e, h1, _⟩ := hk1 n (List.mem_of_getElem? hd)
    have np : k ≠ r := fun z => by rw [← z, hk] at hrr; cases hrr
    walk_at "w"
    rw [dctI_own (by rw [mset_ne np]; exact hk)]
    walk_at "w"
    rw [kd.val, h1]
    have := hP' rfl
    unfold gtD at this
    simp only [h1, oldD] at this
    exact this
  rw [gtD_map eP]
  refine use_prs okP ne (by omega) lt fun r2 hr2 => ?_
  obtain rfl := hr.uniq hr2
  refine eqG_self hr.cmp.1 ?_
  exact fin_pure hR
abbrev N__law_purse : List Str := ["_law_script", "_law_at", "_law_cell"]
theorem sc__law_purse : FnScope N__law_purse ["_law_script", "_law_at"] (defScope s__law_purse) := ⟨rfl, rfl, rfl, by decide +kernel, rfl, by decide +kernel, by decide +kernel⟩
def S__law_purse : DSp := fun ds M R _ => ∃ ns t, ds = [.scr ns, .int t] ∧ 0 ≤ t ∧ t ≤ 1000000 ∧ ∀ p m, M p = none → PurseOk (1000 * t) m → R (.own p) (mset M p m)
theorem ok__law_purse {P : Program} {w : World} {K : PySem.W.Frag} {mg : Str → Option Value} {base : Heap} {C f : Addr} {fd : FuncData} (T : Txt K mg) (F : FunD K "_law_purse" "_law_purse" (defArgs s__law_purse) (defBody s__law_purse) (defScope s__law_purse) [] [] f fd)  : FnOk P w K mg base CX0 1 f fd ["_law_script", "_law_at"] (spD ⟨K, C⟩ 2 S__law_purse) := by
  have nd := sc__law_purse.nd
  refine fn_ok 3 2 F sc__law_purse (fun cdv A outer s H E hr =>
      (qss_cons (qs_set (i := 2) nd (q_cb b_sum rfl T.b_sum bb_sum (qa_cons (q_sl (qv 0) (qo_some (qv 1)) (qo_some (q_add (qv 1) qi))) qa_nil)))
      (qss_one (qs_ret (q_lstO (qa_cons (q_mod (q_cb b_max2 rfl T.b_max bb_max (qa_cons (q_sub (qv 2) (q_pow qi qi)) (qa_cons qi qa_nil))) (q_pow (q_pow qi qi) qi)) (qa_cons (q_mod (qv 2) qi) (qa_cons (q_mul qi (qv 1)) qa_nil)))))))) ?_
  rintro ds M R - ⟨ns, t, rfl, h0, h1, hR⟩
  walk_at "v"
  unfold cutD
  walk_at "v"
  rw [intsD_take]
  walk_at "v"
  refine ⟨by decide +kernel, mulL (by omega) (by omega), by decide, fun p hp => fin_own (hR p _ hp ⟨_, _, _, rfl, by omega, by omega⟩)⟩
abbrev N__law_names : List Str := ["_law_purse_here", "_law_letters", "_law_pool", "_law_k"]
theorem sc__law_names : FnScope N__law_names ["_law_purse_here"] (defScope s__law_names) := ⟨rfl, rfl, rfl, by decide +kernel, rfl, by decide +kernel, by decide +kernel⟩
def poolS (k : Nat) : Str := Txt.mul ⟨#[(ltrs.cps.toList[k % 26]?).getD 0]⟩ (1 + (k : Int) / 26)
def poolL : List Str := (List.range 40).map poolS
theorem pool_ok : (poolL.length = 40 ∧ poolL.Nodup) ∧ ∀ n ∈ poolL, GoodN n := by decide +kernel
theorem perm_er {α : Type} : ∀ {l : List α} {i : Nat} {x : α}, l[i]? = some x → (x :: l.eraseIdx i).Perm l
  | [], _, _, h => by simp at h
  | y :: r, 0, x, h => by
    simp at h
    subst h
    exact List.Perm.refl _
  | y :: r, i + 1, x, h => by
    have h' : r[i]? = some x := by simpa using h
    exact (List.Perm.swap y x (r.eraseIdx i)).trans ((perm_er h').cons y)
theorem er_map {α β : Type} (f : α → β) : ∀ (l : List α) (i : Nat), (l.map f).eraseIdx i = (l.eraseIdx i).map f
  | [], _ => rfl
  | _ :: _, 0 => rfl
  | y :: r, i + 1 => congrArg (f y :: ·) (er_map f r i)
def S__law_names : DSp := fun ds M R _ => ∃ (a : Addr) (b : Int) (m : MO) (M0 : Mem), ds = [.own a] ∧ M = mset M0 a m ∧ PurseOk b m ∧ b ≤ 1000000000000 ∧ ∀ (ns : List Str) m', ns.length = 40 → ns.Nodup → (∀ n ∈ ns, GoodN n) → PurseOk (b + 20000) m' → R (.lst (ns.map .str)) (mset M0 a m')
theorem ok__law_names {P : Program} {w : World} {K : PySem.W.Frag} {mg : Str → Option Value} {base : Heap} {C f : Addr} {fd : FuncData} (T : Txt K mg) (F : FunD K "_law_names" "_law_names" (defArgs s__law_names) (defBody s__law_names) (defScope s__law_names) [] [] f fd) (h__law_draw : CallOk P w K mg base C 2 "_law_draw" 2 S__law_draw []) : FnOk P w K mg base CX0 3 f fd ["_law_purse_here"] (spD ⟨K, C⟩ 1 S__law_names) := by
  have nd := sc__law_names.nd
  refine fn_ok 4 1 F sc__law_names (fun cdv A outer s H E hr =>
      (qss_cons (qs_set (i := 1) nd qs)
      (qss_cons (qs_set (i := 2) nd (q_lcO (own := [("_law_k", 3)]) nd (qi_rng1 T.b_range (qa_cons qi qa_nil)) (blkOk_by (own := [("_law_k", 3)]) (N := N__law_names) (sc := defScope s__law_names) (by decide +kernel)) (fun _ _ _ _ _ => (qgw_name (i := 3) nd)) (fun _ _ _ _ _ => qts_nil) (fun _ _ _ _ _ => (q_mulS (q_ixS (qv 1) (q_mod (qv 3) qi)) (q_add qi (q_div (qv 3) qi))))))
      (qss_one (qs_ret (q_lc (own := [("_law_k", 3)]) nd (qi_rng1 T.b_range (qa_cons qi qa_nil)) (blkOk_by (own := [("_law_k", 3)]) (N := N__law_names) (sc := defScope s__law_names) (by decide +kernel)) (fun _ _ _ _ _ => (qgw_name (i := 3) nd)) (fun _ _ _ _ _ => qts_nil) (fun _ _ _ _ _ => (q_popI (qv 2) (qc h__law_draw hr (by decide) (qa_cons (qv 0) (qa_cons (q_cb b_len rfl T.b_len bb_len (qa_cons (qv 2) qa_nil)) qa_nil))))))))))) ?_
  rintro ds _ R - ⟨a, b, m, M, rfl, rfl, hm, hb, hR⟩
  walk_at "w"
  unfold vLcO
  rw [e_wRng1]
  walk_at "w"
  refine ⟨by omega, by omega, fun q hq => ?_⟩
  obtain ⟨hq, qa⟩ := mset_none hq
  refine ⟨fun i acc M' => M' = mset M a m ∧ i ≤ 40 ∧ acc = ((List.range i).map poolS).map .str, ⟨rfl, by omega, rfl⟩, ?_, ?_, ?_⟩
  · rintro i acc M' ⟨rfl, i4, rfl⟩
    refine ⟨by rw [mset_ne qa]; exact hq, ?_⟩
    rw [List.length_map, List.length_map, List.length_range]
    exact Nat.lt_of_le_of_lt i4 (by decide)
  · rintro i acc M' d ⟨rfl, i4, rfl⟩ hd
    obtain ⟨hi, rfl⟩ := (rngD_get _ _ _ _).mp hd
    have hi : i < 40 := hi
    rw [Int.zero_add]
    walk_at "w"
    obtain ⟨c, hc⟩ := let_at (i := (i : Int) % 26) (by omega) (by omega)
    have ec : poolS i = Txt.mul ⟨#[c]⟩ (1 + (i : Int) / 26) := by
      have e2 : (i : Int) % 26 = ((i % 26 : Nat) : Int) := by omega
      rw [e2] at hc
      have l26 : ltrs.cps.toList.length = 26 := by decide +kernel
      have hg : ltrs.cps.toList[i % 26]? = some ltrs.cps.toList[i % 26] := List.getElem?_eq_getElem (by omega)
      rw [L2.atI_nat hg] at hc
      cases hc
      unfold poolS
      rw [hg]
      rfl
    refine ⟨by decide +kernel, c, hc, ⟨by decide, by decide +kernel⟩, by omega, by omega, (show 1 ≤ 1000 by decide), _, rfl, rfl, by omega, ?_⟩
    rw [List.range_succ, List.map_append, List.map_append, ← ec]
    rfl
  · rintro acc M' ⟨rfl, _, rfl⟩
    rw [rngD_len]
    have e0 : ((List.range 40).map poolS) = poolL := rfl
    rw [e0, mset_comm qa.symm]
    unfold vLc
    rw [e_wRng1]
    walk_at "w"
    refine ⟨by omega, by omega, fun r hr => ?_⟩
    obtain ⟨hr, ra⟩ := mset_none hr
    obtain ⟨hr, rq⟩ := mset_none hr
    refine ⟨fun i acc M' => ∃ (rest got : List Str) (m' : MO), M' = mset (mset M q (.lst (rest.map .str))) a m' ∧ acc = got.map .str ∧ (got ++ rest).Perm poolL ∧ got.length = i ∧ PurseOk (b + 301 * (i : Int)) m', ⟨poolL, [], m, rfl, rfl, List.Perm.refl _, rfl, by simpa using hm⟩, ?_, ?_, ?_⟩
    · rintro i acc M' ⟨rest, got, m', rfl, rfl, pm, gl, hm'⟩
      have := pm.length_eq
      rw [List.length_append, pool_ok.1.1] at this
      refine ⟨by rw [mset_ne ra, mset_ne rq]; exact hr, ?_⟩
      rw [List.length_map]
      exact Nat.lt_of_le_of_lt (show got.length ≤ 40 by omega) (by decide)
    · rintro i acc M' d ⟨rest, got, m', rfl, rfl, pm, gl, hm'⟩ hd
      obtain ⟨hi, rfl⟩ := (rngD_get _ _ _ _).mp hd
      have hi : i < 40 := hi
      have pl := pm.length_eq
      rw [List.length_append, pool_ok.1.1] at pl
      have lr : rest.length = 40 - i := by omega
      have e1 : mset (mset (mset M q (.lst (rest.map .str))) a m') r (.lst (got.map .str)) = mset (mset (mset M q (.lst (rest.map .str))) r (.lst (got.map .str))) a m' := mset_comm ra.symm
      have q1 : mset (mset (mset M q (.lst (rest.map .str))) r (.lst (got.map .str))) a m' q = some (.lst (rest.map .str)) := by rw [mset_ne qa, mset_ne rq.symm, mset_same]
      rw [e1]
      walk_at "w"
      refine ⟨lstAt_of q1, ?_⟩
      rw [q1]
      dsimp only
      rw [List.length_map]
      refine use_draw hm' (by omega) (by omega) (sm_of (by omega) (by omega)) fun d m2 d0 d1 hm2 => ?_
      have q2 : mset (mset (mset M q (.lst (rest.map .str))) r (.lst (got.map .str))) a m2 q = some (.lst (rest.map .str)) := by rw [mset_ne qa, mset_ne rq.symm, mset_same]
      rw [q2]
      dsimp only
      obtain ⟨x, hx⟩ : ∃ x, rest[d.toNat]? = some x := ⟨_, List.getElem?_eq_getElem (by omega)⟩
      refine ⟨d0, by omega, .str x, by rw [List.getElem?_map, hx]; rfl, rfl, mset (mset M q (.lst ((rest.eraseIdx d.toNat).map .str))) a m2, ?_, rest.eraseIdx d.toNat, got ++ [x], m2, rfl, by rw [List.map_append]; rfl, ?_, by rw [List.length_append, gl]; rfl, hm2.mono (by omega)⟩
      · rw [er_map]
        funext c
        unfold mset
        by_cases h1 : c = q <;> by_cases h2 : c = r <;> by_cases h3 : c = a <;> simp_all
      · rw [List.append_assoc]
        exact ((perm_er hx).append_left got).trans pm
    · rintro acc M' ⟨rest, got, m', rfl, rfl, pm, gl, hm'⟩
      rw [rngD_len] at gl
      have pl := pm.length_eq
      rw [List.length_append, pool_ok.1.1] at pl
      have gl : got.length = 40 := gl
      have e : rest = [] := List.length_eq_zero_iff.mp (by omega)
      subst e
      rw [List.append_nil] at pm
      rw [← mset_comm qa.symm]
      exact fin_to (mset M a m') (Sub.set (by rw [mset_ne qa]; exact hq)) (fun b hb => by
        unfold mset at hb ⊢
        split
        · rfl
        · rename_i z; rw [if_neg z] at hb; exact hb) (hR got m' gl (pm.nodup_iff.mpr pool_ok.1.2) (fun n hn => pool_ok.2 n (pm.mem_iff.mp hn)) (hm'.mono (by omega))) (pure_strs got)
abbrev N_Library___init__ : List Str := ["self"]
theorem sc_Library___init__ : FnScope N_Library___init__ ["self"] (defScope s_Library___init__) := ⟨rfl, rfl, rfl, by decide +kernel, rfl, by decide +kernel, by decide +kernel⟩
def S_Library___init__ : DSp := fun ds M R _ => ∃ x : Addr, ds = [.own x] ∧ M x = some (.obj "Library" []) ∧ ∀ b, M b = none → R .non (libM M x b [] [])
theorem ok_Library___init__ {P : Program} {w : World} {K : PySem.W.Frag} {mg : Str → Option Value} {base : Heap} {C f : Addr} {fd : FuncData} (T : Txt K mg) (F : FunD K "__init__" "Library.__init__" (defArgs s_Library___init__) (defBody s_Library___init__) (defScope s_Library___init__) [] [] f fd) (oc_Library : OCls K "Library") : FnOk P w K mg base CX0 1 f fd ["self"] (spD ⟨K, C⟩ 1 S_Library___init__) := by
  have nd := sc_Library___init__.nd
  refine fn_ok 1 1 F sc_Library___init__ (fun cdv A outer s H E hr =>
      (qss_cons (qs_fldO oc_Library 0 (by decide +kernel) (qv 0) q_dct0)
      (qss_one (qs_fldO oc_Library 1 (by decide +kernel) (qv 0) (q_lstO qa_nil))))) ?_
  rintro ds M R - ⟨x, rfl, hx, hR⟩
  walk_at "w"
  rw [hx]
  walk_at "w"
  refine fun b hb => ?_
  obtain ⟨hb, ne⟩ := mset_none hb
  rw [mset_ne (Ne.symm ne), mset_same]
  walk_at "w"
  have e : mset (mset (mset M x (.obj "Library" [.dct [] []])) b (.lst [])) x (.obj "Library" [.dct [] [], .own b]) = libM M x b [] [] := by
    unfold libM
    rw [mset_comm (Ne.symm ne), mset_set]
    rfl
  rw [e]
  refine ⟨Nat.le_refl _, ?_⟩
  refine fin_to _ Sub.refl (fun c hc => ?_) (hR b hb)
  unfold libM mset
  split
  · rfl
  · split
    · rfl
    · exact hc
abbrev N_Library_copy : List Str := ["self", "other"]
theorem sc_Library_copy : FnScope N_Library_copy ["self"] (defScope s_Library_copy) := ⟨rfl, rfl, rfl, by decide +kernel, rfl, by decide +kernel, by decide +kernel⟩
def S_Library_copy : DSp := fun ds M R _ => ∃ (x b : Addr) (kv : Kpt) (st : List D), ds = [.own x] ∧ M x = some (lbO kv b) ∧ M b = some (.lst st) ∧ pureL st = true ∧ st.length < sizeLine ∧ ∀ y, M y = none → ∀ c, M c = none → c ≠ y → R (.own y) (libM M y c kv st)
theorem ok_Library_copy {P : Program} {w : World} {K : PySem.W.Frag} {mg : Str → Option Value} {base : Heap} {C f : Addr} {fd : FuncData} (T : Txt K mg) (F : FunD K "copy" "Library.copy" (defArgs s_Library_copy) (defBody s_Library_copy) (defScope s_Library_copy) [] [] f fd) (hmk_Library : MkO P w K mg base C 1 "Library" 1 S_Library___init__) (oc_Library : OCls K "Library") : FnOk P w K mg base CX0 3 f fd ["self"] (spD ⟨K, C⟩ 1 S_Library_copy) := by
  have nd := sc_Library_copy.nd
  refine fn_ok 2 1 F sc_Library_copy (fun cdv A outer s H E hr =>
      (qss_cons (qs_set (i := 1) nd (q_makeO0 hmk_Library hr (by decide)))
      (qss_cons (qs_fldO oc_Library 0 (by decide +kernel) (qv 1) (q_ct b_dict rfl T.b_dict bb_dict (qa_cons (q_fldO oc_Library 0 (by decide +kernel) (qv 0)) qa_nil)))
      (qss_cons (qs_fldO oc_Library 1 (by decide +kernel) (qv 1) (q_ct b_listO rfl T.b_list bb_list (qa_cons (q_fldO oc_Library 1 (by decide +kernel) (qv 0)) qa_nil)))
      (qss_one (qs_ret (qv 1))))))) ?_
  rintro ds M R - ⟨x, b, kv, st, rfl, hx, hb, pu, sl, hR⟩
  walk_at "w"
  intro y hy
  have yx : y ≠ x := fun z => by rw [z, hx] at hy; cases hy
  have yb : y ≠ b := fun z => by rw [z, hb] at hy; cases hy
  refine ⟨y, rfl, mset_same, fun c0 hc0 => ?_⟩
  obtain ⟨hc0, cy0⟩ := mset_none hc0
  have cx0 : c0 ≠ x := fun z => by rw [z, hx] at hc0; cases hc0
  have cb0 : c0 ≠ b := fun z => by rw [z, hb] at hc0; cases hc0
  refine ⟨rfl, ?_⟩
  rw [libM_mx cy0]
  rw [libM_o yx.symm cx0.symm, hx]
  unfold lbO
  walk_at "w"
  rw [libM_x]
  unfold lbO
  walk_at "w"
  have e1 : mset (libM M y c0 [] []) y (.obj "Library" [.dct (kKs kv) (kDs kv), .own c0]) = libM M y c0 kv [] := by
    unfold libM
    rw [mset_set]
    rfl
  refine ⟨pure_kDs kv, ?_⟩
  rw [e1, libM_o yx.symm cx0.symm, hx]
  unfold lbO
  walk_at "w"
  have hb2 : libM M y c0 kv [] b = some (.lst st) := by rw [libM_o yb.symm cb0.symm]; exact hb
  refine ⟨by rw [hb2]; rfl, ?_⟩
  unfold oListO
  simp only [seqI_own hb2]
  refine ⟨pu, fun c hc => ?_⟩
  have cy : c ≠ y := fun z => by rw [z, libM_x] at hc; cases hc
  have cc0 : c ≠ c0 := fun z => by rw [z, libM_b cy0] at hc; cases hc
  rw [libM_o cy cc0] at hc
  walk_at "w"
  rw [mset_ne cy.symm, libM_x]
  unfold lbO
  walk_at "w"
  refine ⟨by decide, ?_⟩
  have e2 : ∀ a, a ≠ c0 → libM M y c kv st a = mset (mset (libM M y c0 kv []) c (.lst st)) y (.obj "Library" [.dct (kKs kv) (kDs kv), .own c]) a := fun a ha => by
    by_cases h1 : a = y
    · rw [h1, libM_x, mset_same]; rfl
    · rw [mset_ne h1]
      by_cases h2 : a = c
      · rw [h2, libM_b cy, mset_same]
      · rw [libM_o h1 h2, mset_ne h2, libM_o h1 ha]
  refine ⟨.own y, libM M y c kv st, fun a m e => ?_, libM_dom0, .inl ⟨rfl, .inr ⟨y, rfl, by rw [libM_x]; rfl⟩⟩, hR y hy c hc cy⟩
  by_cases ha : a = c0
  · rw [ha, libM_o cy0 cc0.symm, hc0] at e; cases e
  · rw [← e2 a ha]; exact e
abbrev N_Library_back : List Str := ["self", "told", "old"]
theorem sc_Library_back : FnScope N_Library_back ["self"] (defScope s_Library_back) := ⟨rfl, rfl, rfl, by decide +kernel, rfl, by decide +kernel, by decide +kernel⟩
def S_Library_back : DSp := fun ds M R _ => ∃ (x b : Addr) (kv : Kpt) (st ts : List D) (n : Str) (fo : Option Pc), ds = [.own x] ∧ M x = some (lbO kv b) ∧ M b = some (.lst (st ++ [stD ts fo])) ∧ KOk kv ∧ kv.length < 63 ∧ nthD ts 1 = some (.str n) ∧ pureL ts = true ∧ ∀ kv', SetTo kv n fo kv' → R .non (libM M x b kv' st)
theorem ok_Library_back {P : Program} {w : World} {K : PySem.W.Frag} {mg : Str → Option Value} {base : Heap} {C f : Addr} {fd : FuncData} (T : Txt K mg) (F : FunD K "back" "Library.back" (defArgs s_Library_back) (defBody s_Library_back) (defScope s_Library_back) [] [] f fd) (oc_Library : OCls K "Library") (hmo_Library_set_entry_2 : MOkO P w K mg base C 1 "Library" "set_entry" 3 S_Library_set_entry []) : FnOk P w K mg base CX0 2 f fd ["self"] (spD ⟨K, C⟩ 1 S_Library_back) := by
  have nd := sc_Library_back.nd
  refine fn_ok 3 1 F sc_Library_back (fun cdv A outer s H E hr =>
      (qss_cons (qs_if (qt_cmp (c_eqNO hr) (q_fldO oc_Library 1 (by decide +kernel) (qv 0)) (q_lst qa_nil))
        (qss_one qs_never)
        qss_nil)
      (qss_cons (qs_asg (q_pop (q_fldO oc_Library 1 (by decide +kernel) (qv 0))) (qg_tup (n := 2) (qgs_cons (qg_name (i := 1) nd) (qgs_cons (qg_name (i := 2) nd) qgs_nil))))
      (qss_one (qs_expr (q_methO hmo_Library_set_entry_2 hr (by decide) (qv 0) (qa_cons (q_ixC 1 (qv 1)) (qa_cons (qv 2) qa_nil)))))))) ?_
  rintro ds M R - ⟨x, b, kv, st, ts, n, fo, rfl, hx, hb, ok, hl, hn, pu, hR⟩
  have bx := lb_ne hx hb
  walk_at "w"
  rw [hx]
  unfold lbO
  walk_at "w"
  rw [hb]
  walk_at "w"
  refine ⟨rfl, fun c => absurd c (by simp), fun _ => ?_⟩
  rw [hx]
  unfold lbO
  walk_at "w"
  rw [hb]
  dsimp only
  have g1 : (st ++ [stD ts fo])[(st ++ [stD ts fo]).length - 1]? = some (stD ts fo) := by rw [List.length_append]; simp
  rw [g1, List.dropLast_concat]
  simp only [stD]
  walk_at "w"
  rw [mset_ne (Ne.symm bx), hx]
  unfold lbO
  walk_at "w"
  rw [hn]
  walk_at "w"
  refine ⟨rfl, x, b, kv, n, fo, rfl, by rw [mset_ne (Ne.symm bx)]; exact hx, ok, hl, fun kv' h => ?_⟩
  walk_at "w"
  exact fin_lib (hR kv' h)
def Sx_Library_back : DSx := fun ds M X => ∃ (x b : Addr) (kv : Kpt), ds = [.own x] ∧ M x = some (lbO kv b) ∧ M b = some (.lst []) ∧ X ⟨"NothingToUndo", .non⟩ M
theorem okx_Library_back {P : Program} {w : World} {K : PySem.W.Frag} {mg : Str → Option Value} {base : Heap} {C f : Addr} {fd : FuncData} (T : Txt K mg) (F : FunD K "back" "Library.back" (defArgs s_Library_back) (defBody s_Library_back) (defScope s_Library_back) [] [] f fd) (oc_Library : OCls K "Library") (he0_NothingToUndo : ExK0 K mg "NothingToUndo") : FnOk P w K mg base (CXp P w) 1 f fd ["self"] (spX ⟨K, C⟩ 1 Sx_Library_back) := by
  have nd := sc_Library_back.nd
  refine fn_okX 3 1 F sc_Library_back (fun cdv A outer s H E hr =>
      (qss_cons (qs_if (qt_cmp (c_eqNO hr) (q_fldO oc_Library 1 (by decide +kernel) (qv 0)) (q_lst qa_nil))
        (qss_one (qs_raise0 (c := "NothingToUndo") he0_NothingToUndo))
        qss_nil)
      qss_never)) ?_
  rintro ds M Xd - ⟨x, b, kv, rfl, hx, hb, hX⟩
  walk_at "w"
  rw [hx]
  unfold lbO
  walk_at "w"
  rw [hb]
  walk_at "w"
  exact ⟨rfl, fun _ => finX_pure hX rfl, fun z => (by cases z)⟩
abbrev N_law : List Str := ["_law_script", "_law_cell", "_law_purse_here", "_law_names_here", "_law_library", "_law_states", "_law_log", "_law_turn", "_law_found", "_law_told", "_law_other", "_law_name", "_law_refused"]
theorem sc_law : FnScope N_law ["_law_script"] (defScope s_law) := ⟨rfl, rfl, rfl, by decide +kernel, rfl, by decide +kernel, by decide +kernel⟩
def S_law : DSp := fun ds M R _ => ∃ ns, ds = [.scr ns] ∧ ∀ M', R (.bl true) M'
theorem law_true (ns : List Int) (_ : ns.length ≤ 63) (M : Mem) (R : DR) (X : DX) (h : ∀ M', R (.bl true) M') : S_law [.scr ns] M R X := ⟨ns, rfl, h⟩
structure J96 (M0 : Mem) (p x b s q : Addr) (nms : List Str) (c : Int) (sts : List (Addr × Kpt)) (ss : List (List D × Option Pc)) (kv : Kpt) (n : Nat) (N : Mem) : Prop where
  hp : ∃ m, N p = some m ∧ PurseOk c m
  hx : N x = some (lbO kv b)
  hb : N b = some (.lst ((ss.take n).map fun s => stD s.1 s.2))
  hs : N s = some (.lso (sts.map fun z => D.own z.1))
  hq : N q = some (.lst (ss.map fun s => .tup s.1))
  hk : ∀ z ∈ sts, ∃ ks es, N z.1 = some (.dct ks es) ∧ KdOk ks es (lkp z.2) ∧ pureL es = true
  len : sts.length = ss.length + 1
  en : ∀ z ∈ sts, ∀ n e, lkp z.2 n = some e → n ∈ nms ∧ E96 e
  ok : KOk kv
  at_ : ∃ z, sts[n]? = some z ∧ lkp kv = lkp z.2
  st : ∀ i told o, ss[i]? = some (told, o) → ∃ nm z z', nm ∈ nms ∧ Tl96 told nm ∧ sts[i]? = some z ∧ sts[i + 1]? = some z' ∧ o = lkp z.2 nm ∧ ∀ m, m ≠ nm → lkp z'.2 m = lkp z.2 m
  sub : Sub M0 N
structure F96 (M0 : Mem) (p x b s q : Addr) (nms : List Str) : Prop where
  np : M0 p = none
  nx : M0 x = none
  nb : M0 b = none
  ns : M0 s = none
  nq : M0 q = none
  pb : p ≠ b
  pq : p ≠ q
  bq : b ≠ q
  gn : ∀ n ∈ nms, GoodN n
  nl : nms.length = 40
  nd : nms.Nodup
section
variable {M0 N : Mem} {p x b s q : Addr} {nms : List Str} {c : Int} {sts : List (Addr × Kpt)} {ss : List (List D × Option Pc)} {kv : Kpt} {n : Nat}
theorem J96.ne (j : J96 M0 p x b s q nms c sts ss kv n N) : x ≠ p ∧ x ≠ b ∧ x ≠ s ∧ x ≠ q ∧ s ≠ p ∧ s ≠ b ∧ s ≠ q ∧ ∀ z ∈ sts, z.1 ≠ p ∧ z.1 ≠ x ∧ z.1 ≠ b ∧ z.1 ≠ s ∧ z.1 ≠ q := by
  obtain ⟨m, hp, _, _, _, rfl, _⟩ := j.hp
  have hx := j.hx
  have hb := j.hb
  have hs := j.hs
  have hq := j.hq
  unfold lbO at hx
  refine ⟨fun z => ?_, fun z => ?_, fun z => ?_, fun z => ?_, fun z => ?_, fun z => ?_, fun z => ?_, fun z hz => ?_⟩
  · rw [z, hp] at hx; cases hx
  · rw [z, hb] at hx; cases hx
  · rw [z, hs] at hx; cases hx
  · rw [z, hq] at hx; cases hx
  · rw [z, hp] at hs; cases hs
  · rw [z, hb] at hs; cases hs
  · rw [z, hq] at hs; cases hs
  · obtain ⟨ks, es, hk, _⟩ := j.hk z hz
    refine ⟨fun e => ?_, fun e => ?_, fun e => ?_, fun e => ?_, fun e => ?_⟩
    · rw [e, hp] at hk; cases hk
    · rw [e, hx] at hk; cases hk
    · rw [e, hb] at hk; cases hk
    · rw [e, hs] at hk; cases hk
    · rw [e, hq] at hk; cases hk
theorem sub_mset {M N : Mem} {q : Addr} {m : MO} (s : Sub M N) (hq : M q = none) : Sub M (mset N q m) := fun a o e => by
  have : a ≠ q := fun z => by rw [z, hq] at e; cases e
  rw [mset_ne this]
  exact s a o e
theorem sub_libM {M N : Mem} {x b : Addr} {kw : Kpt} {su : List D} (s : Sub M N) (hx : M x = none) (hb : M b = none) : Sub M (libM N x b kw su) := sub_mset (sub_mset s hb) hx
theorem J96.draw (f : F96 M0 p x b s q nms) (j : J96 M0 p x b s q nms c sts ss kv n N) {c' : Int} {m' : MO} (h : PurseOk c' m') : J96 M0 p x b s q nms c' sts ss kv n (mset N p m') := by
  obtain ⟨xp, xb, xs, xq, sp, sb, sq, zk⟩ := j.ne
  refine ⟨⟨m', mset_same, h⟩, by rw [mset_ne xp]; exact j.hx, by rw [mset_ne f.pb.symm]; exact j.hb, by rw [mset_ne sp]; exact j.hs, by rw [mset_ne f.pq.symm]; exact j.hq, fun z hz => ?_, j.len, j.en, j.ok, j.at_, j.st, sub_mset j.sub f.np⟩
  rw [mset_ne (zk z hz).1]
  exact j.hk z hz
theorem lb_of (f : F96 M0 p x b s q nms) (j : J96 M0 p x b s q nms c sts ss kv n N) (l : ss.length ≤ 300) : Lb96 nms kv (ss.take n) := by
  obtain ⟨z, hz, ez⟩ := j.at_
  refine ⟨j.ok, fun m e he => j.en z (List.mem_of_getElem? hz) m e (by rw [← ez]; exact he), fun s' hs' => ?_, f.gn, f.nl, by rw [List.length_take]; omega⟩
  obtain ⟨i, hi⟩ := List.getElem?_of_mem (List.mem_of_mem_take hs')
  obtain ⟨nm, _, _, h1, h2, _⟩ := j.st i s'.1 s'.2 hi
  exact ⟨nm, h1, h2⟩
theorem kl_of (f : F96 M0 p x b s q nms) (j : J96 M0 p x b s q nms c sts ss kv n N) : kv.length ≤ 40 := by
  obtain ⟨z, hz, ez⟩ := j.at_
  have := nodup_le j.ok.nd fun m hm => (by
    obtain ⟨e, he⟩ := Option.isSome_iff_exists.mp (lkp_mem.mpr hm)
    exact (j.en z (List.mem_of_getElem? hz) m e (by rw [← ez]; exact he)).1 : m ∈ nms)
  rw [List.length_map, f.nl] at this
  exact this
theorem J96.step (f : F96 M0 p x b s q nms) (j : J96 M0 p x b s q nms c sts ss kv ss.length N) {told : List D} {nm : Str} {o : Option Pc} {kv' : Kpt} {k : Addr} {ks : List Key} {es : List D} (hm : nm ∈ nms) (t : Tl96 told nm) (eo : ∀ e, o = some e → E96 e) (st : SetTo kv nm o kv')
    (hk : libM N x b kv' ((ss.map fun s => stD s.1 s.2) ++ [stD told (lkp kv nm)]) k = none) (kd : KdOk ks es (lkp kv')) (pe : pureL es = true) :
    J96 M0 p x b s q nms c (sts ++ [(k, kv')]) (ss ++ [(told, lkp kv nm)]) kv' (ss ++ [(told, lkp kv nm)]).length (mset (mset (mset (libM N x b kv' ((ss.map fun s => stD s.1 s.2) ++ [stD told (lkp kv nm)])) k (.dct ks es)) s (.lso ((sts.map fun z => D.own z.1) ++ [.own k]))) q (.lst ((ss.map fun s => .tup s.1) ++ [.tup told]))) := by
  obtain ⟨xp, xb, xs, xq, sp, sb, sq, zk⟩ := j.ne
  obtain ⟨z0, hz0, ez0⟩ := j.at_
  have len := j.len
  have kx : k ≠ x := fun e => by rw [e, libM_x] at hk; cases hk
  have kb : k ≠ b := fun e => by rw [e, libM_b xb.symm] at hk; cases hk
  rw [libM_o kx kb] at hk
  obtain ⟨m, hp, hm'⟩ := j.hp
  have kp : k ≠ p := fun e => by rw [e, hp] at hk; cases hk
  have ks' : k ≠ s := fun e => by rw [e, j.hs] at hk; cases hk
  have kq : k ≠ q := fun e => by rw [e, j.hq] at hk; cases hk
  have m0k : M0 k = none := j.sub.non hk
  refine ⟨⟨m, ?_, hm'⟩, ?_, ?_, ?_, ?_, fun z hz => ?_, by simp [len], fun z hz a e he => ?_, st.ok, ⟨(k, kv'), ?_, rfl⟩, fun i told' o' hi => ?_, ?_⟩
  · rw [mset_ne f.pq, mset_ne sp.symm, mset_ne kp.symm, libM_o xp.symm f.pb]; exact hp
  · rw [mset_ne xq, mset_ne xs, mset_ne kx.symm, libM_x]
  · rw [mset_ne f.bq, mset_ne sb.symm, mset_ne kb.symm, libM_b xb.symm, List.take_length, List.map_append]; rfl
  · rw [mset_ne sq, mset_same, List.map_append]; rfl
  · rw [mset_same, List.map_append]; rfl
  · rcases List.mem_append.mp hz with hz | hz
    · obtain ⟨h1, h2, h3, h4, h5⟩ := zk z hz
      obtain ⟨ks2, es2, h6, h7⟩ := j.hk z hz
      have zk' : z.1 ≠ k := fun e => by rw [e, hk] at h6; cases h6
      exact ⟨ks2, es2, by rw [mset_ne h5, mset_ne h4, mset_ne zk', libM_o h2 h3]; exact h6, h7⟩
    · simp only [List.mem_singleton] at hz
      subst hz
      exact ⟨ks, es, by rw [mset_ne kq, mset_ne ks', mset_same], kd, pe⟩
  · rcases List.mem_append.mp hz with hz | hz
    · exact j.en z hz a e he
    · simp only [List.mem_singleton] at hz
      subst hz
      have he : lkp kv' a = some e := he
      rw [st.at_] at he
      by_cases c1 : a = nm
      · rw [if_pos c1] at he
        exact ⟨c1 ▸ hm, eo e he⟩
      · rw [if_neg c1, ez0] at he
        exact j.en z0 (List.mem_of_getElem? hz0) a e he
  · rw [List.length_append, List.getElem?_append_right (by simp [len])]
    simp [len]
  · have il := (List.getElem?_eq_some_iff.mp hi).1
    rw [List.length_append, List.length_singleton] at il
    rcases Nat.lt_or_ge i ss.length with c1 | c1
    · rw [List.getElem?_append_left c1] at hi
      obtain ⟨nm', z, z', h1, h2, h3, h4, h5, h6⟩ := j.st i told' o' hi
      exact ⟨nm', z, z', h1, h2, by rw [List.getElem?_append_left (by omega)]; exact h3, by rw [List.getElem?_append_left (by omega)]; exact h4, h5, h6⟩
    · obtain rfl : i = ss.length := by omega
      rw [List.getElem?_append_right (Nat.le_refl _)] at hi
      simp only [Nat.sub_self, List.getElem?_cons_zero, Option.some.injEq, Prod.mk.injEq] at hi
      obtain ⟨rfl, rfl⟩ := hi
      refine ⟨nm, z0, (k, kv'), hm, t, by rw [List.getElem?_append_left (by omega)]; exact hz0, ?_, by rw [ez0], fun a ha => ?_⟩
      · rw [List.getElem?_append_right (by omega)]
        simp [len]
      · show lkp kv' a = _
        rw [st.at_, if_neg ha, ez0]
  · exact sub_mset (sub_mset (sub_mset (sub_libM j.sub f.nx f.nb) m0k) f.ns) f.nq
theorem atI_last {l : List D} {v : D} {n : Nat} (hl : l.length = n + 1) (h : l[n]? = some v) : atI l (-1) = some v := by
  unfold L2.atI L2.ixN
  rw [hl, if_neg (by decide), if_pos (by omega)]
  show l[(-1 + ((n + 1 : Nat) : Int)).toNat]? = some v
  rw [show (-1 + ((n + 1 : Nat) : Int)).toNat = n by omega]
  exact h
theorem J96.mono {N1 : Mem} (j : J96 M0 p x b s q nms c sts ss kv n N) (u : Sub N N1) : J96 M0 p x b s q nms c sts ss kv n N1 :=
  ⟨let ⟨m, h1, h2⟩ := j.hp; ⟨m, u _ _ h1, h2⟩, u _ _ j.hx, u _ _ j.hb, u _ _ j.hs, u _ _ j.hq, fun z hz => let ⟨ks, es, h1, h2⟩ := j.hk z hz; ⟨ks, es, u _ _ h1, h2⟩, j.len, j.en, j.ok, j.at_, j.st, fun a m e => u a m (j.sub a m e)⟩
theorem J96.back (f : F96 M0 p x b s q nms) {t : Nat} (j : J96 M0 p x b s q nms c sts ss kv (t + 1) N) {told : List D} {nm : Str} {o : Option Pc} {kv' : Kpt} {z z' : Addr × Kpt} (hz : sts[t]? = some z) (hz' : sts[t + 1]? = some z') (eo : o = lkp z.2 nm) (same : ∀ m, m ≠ nm → lkp z'.2 m = lkp z.2 m) (st : SetTo kv nm o kv') :
    J96 M0 p x b s q nms c sts ss kv' t (libM N x b kv' ((ss.take t).map fun s => stD s.1 s.2)) := by
  obtain ⟨xp, xb, xs, xq, sp, sb, sq, zk⟩ := j.ne
  obtain ⟨m, hp, hm⟩ := j.hp
  refine ⟨⟨m, by rw [libM_o xp.symm f.pb]; exact hp, hm⟩, libM_x, libM_b xb.symm, by rw [libM_o xs.symm sb]; exact j.hs, by rw [libM_o xq.symm f.bq.symm]; exact j.hq, fun y hy => ?_, j.len, j.en, st.ok, ⟨z, hz, ?_⟩, j.st, sub_libM j.sub f.nx f.nb⟩
  · obtain ⟨_, h2, h3, _, _⟩ := zk y hy
    rw [libM_o h2 h3]
    exact j.hk y hy
  · obtain ⟨z1, h1, e1⟩ := j.at_
    rw [hz'] at h1
    cases h1
    funext a
    rw [st.at_]
    by_cases c1 : a = nm
    · rw [if_pos c1, c1, eo]
    · rw [if_neg c1, e1, same a c1]
theorem pure_steps (j : J96 M0 p x b s q nms c sts ss kv n N) : pureL (ss.map fun s => stD s.1 s.2) = true := by
  have : ∀ tt : List (List D × Option Pc), (∀ s ∈ tt, pureL s.1 = true) → pureL (tt.map fun s => stD s.1 s.2) = true := by
    intro tt
    induction tt with
    | nil => exact fun _ => rfl
    | cons s r ih =>
      intro h
      show (pureD (stD s.1 s.2) && pureL (r.map fun s => stD s.1 s.2)) = true
      rw [pure_stD (h s List.mem_cons_self), ih fun z hz => h z (List.mem_cons_of_mem _ hz)]
      rfl
  refine this ss fun s' hs' => ?_
  obtain ⟨i, hi⟩ := List.getElem?_of_mem hs'
  obtain ⟨nm, _, _, _, h2, _⟩ := j.st i s'.1 s'.2 hi
  exact h2.pu
theorem J96.two (j : J96 M0 p x b s q nms c sts ss kv n N) {su : List D} {kv' : Kpt} {k : Addr} {ks : List Key} {es : List D} {d : D} (hk : libM N x b kv' su k = none) (bq : b ≠ q) :
    mset (libM N x b kv' su) k (.dct ks es) s = some (.lso (sts.map fun z => D.own z.1)) ∧ mset (mset (libM N x b kv' su) k (.dct ks es)) s (.lso ((sts.map fun z => D.own z.1) ++ [d])) q = some (.lst (ss.map fun s => .tup s.1)) := by
  obtain ⟨xp, xb, xs, xq, sp, sb, sq, zk⟩ := j.ne
  have kx : k ≠ x := fun e => by rw [e, libM_x] at hk; cases hk
  have kb : k ≠ b := fun e => by rw [e, libM_b xb.symm] at hk; cases hk
  rw [libM_o kx kb] at hk
  have ks' : k ≠ s := fun e => by rw [e, j.hs] at hk; cases hk
  have kq : k ≠ q := fun e => by rw [e, j.hq] at hk; cases hk
  exact ⟨by rw [mset_ne ks'.symm, libM_o xs.symm sb]; exact j.hs, by rw [mset_ne sq.symm, mset_ne kq.symm, libM_o xq.symm bq.symm]; exact j.hq⟩
end
theorem ok_law {P : Program} {w : World} {K : PySem.W.Frag} {mg : Str → Option Value} {base : Heap} {C f : Addr} {fd : FuncData} (T : Txt K mg) (F : FunD K "law" "law" (defArgs s_law) (defBody s_law) (defScope s_law) [] [] f fd) (h__law_purse : CallOk P w K mg base C 1 "_law_purse" 2 S__law_purse []) (h__law_names : CallOk P w K mg base C 3 "_law_names" 1 S__law_names []) (hmk_Library : MkO P w K mg base C 1 "Library" 1 S_Library___init__) (h__law_put : CallOk P w K mg base C 4 "_law_put" 4 S__law_put []) (h__law_entry : CallOk P w K mg base C 5 "_law_entry" 1 S__law_entry []) (h__law_step : CallOk P w K mg base C 6 "_law_step" 4 S__law_step []) (h__law_together_right : CallOk P w K mg base C 14 "_law_together_right" 3 S__law_together_right []) (h__law_shows : CallOk P w K mg base C 6 "_law_shows" 3 S__law_shows []) (hmo_Library_copy_0 : MOkO P w K mg base C 3 "Library" "copy" 1 S_Library_copy []) (hmo_Library_back_0 : MOkO P w K mg base C 2 "Library" "back" 1 S_Library_back []) (huo___contains__ : UOkO P w K mg base C 1 "Library" "__contains__" 2 S_Library___contains__) (h__law_entry_right : CallOk P w K mg base C 5 "_law_entry_right" 2 S__law_entry_right []) (hmo_Library_entry_1 : MOkO P w K mg base C 2 "Library" "entry" 2 S_Library_entry []) (he0_NothingToUndo : ExK0 K mg "NothingToUndo") (hmox_Library_back_0 : MOkOX P w K mg base C 2 "Library" "back" 1 S_Library_back Sx_Library_back) : FnOk P w K mg base CX0 15 f fd ["_law_script"] (spD ⟨K, C⟩ 1 S_law) := by
  have nd := sc_law.nd
  refine fn_ok 13 1 F sc_law (fun cdv A outer s H E hr =>
      (qss_cons (qs_for (qi_rng1 T.b_range (qa_cons qi qa_nil)) (qg_name (i := 1) nd)
        (qss_cons (qs_set (i := 2) nd (qc h__law_purse hr (by decide) (qa_cons (qv 0) (qa_cons (qv 1) qa_nil))))
        (qss_cons (qs_set (i := 3) nd (qc h__law_names hr (by decide) (qa_cons (qv 2) qa_nil)))
        (qss_cons (qs_set (i := 4) nd (q_makeO0 hmk_Library hr (by decide)))
        (qss_cons (qs_par (i := 5) (j := 6) nd (qa_cons (q_lstOO (qa_cons q_dctO qa_nil)) (qa_cons (q_lstO qa_nil) qa_nil)))
        (qss_cons (qs_for (qi_rng1 T.b_range (qa_cons qi qa_nil)) (qg_name (i := 7) nd)
          (qss_cons (qs_if (qt_cmp c_lt (qv 7) qi)
            (qss_one (qs_asg (qc h__law_put hr (by decide) (qa_cons (qv 4) (qa_cons (q_ixO (qv 5) (q_neg qi)) (qa_cons (q_ix (qv 3) (qv 7)) (qa_cons (qc h__law_entry hr (by decide) (qa_cons (qv 2) qa_nil)) qa_nil))))) (qg_tup (n := 2) (qgs_cons (qg_name (i := 8) nd) (qgs_cons (qg_name (i := 9) nd) qgs_nil)))))
            (qss_one (qs_asg (qc h__law_step hr (by decide) (qa_cons (qv 2) (qa_cons (qv 4) (qa_cons (q_ixO (qv 5) (q_neg qi)) (qa_cons (qv 3) qa_nil))))) (qg_tup (n := 2) (qgs_cons (qg_name (i := 8) nd) (qgs_cons (qg_name (i := 9) nd) qgs_nil))))))
          (qss_cons (qs_expr (q_appendO (qv 5) (qv 8)))
          (qss_one (qs_expr (q_append (qv 6) (qv 9)))))))
        (qss_cons (qs_if (QW.qt (qw_or (qt_not (qt_val (qc h__law_shows hr (by decide) (qa_cons (qv 4) (qa_cons (q_ixO (qv 5) (q_neg qi)) (qa_cons (qv 6) qa_nil)))))) (qw_or1 (qt_not (qt_val (qc h__law_together_right hr (by decide) (qa_cons (qv 4) (qa_cons (q_ixO (qv 5) (q_neg qi)) (qa_cons (qv 3) qa_nil)))))))))
          (qss_one (qs_ret qb))
          qss_nil)
        (qss_cons (qs_set (i := 10) nd (q_methO0 hmo_Library_copy_0 hr (by decide) (qv 4)))
        (qss_cons (qs_for (qi_rng3 T.b_range (qa_cons qi (qa_cons (q_neg qi) (qa_cons (q_neg qi) qa_nil)))) (qg_name (i := 7) nd)
          (qss_cons (qs_expr (q_methO0 hmo_Library_back_0 hr (by decide) (qv 4)))
          (qss_cut (qs_if (QW.qt (qw_and (qt_cmp (c_eq hr) (q_mod (qv 7) qi) qi) (qw_and1 (qt_not (qt_val (qc h__law_shows hr (by decide) (qa_cons (qv 4) (qa_cons (q_ixO (qv 5) (qv 7)) (qa_cons (q_sl (qv 6) qo_none (qo_some (qv 7))) qa_nil)))))))))
            (qss_one (qs_ret qb))
            qss_nil)
          (qss_cons (qs_set (i := 11) nd (q_ixC 1 (q_ix (qv 6) (qv 7))))
          (qss_cons (qs_if (qt_cmp (c_ne hr) (q_cmp (c_inU huo___contains__ hr (by decide)) (qv 11) (qv 4)) (q_cmp (c_inDct hr) (qv 11) (q_ixO (qv 5) (qv 7))))
            (qss_one (qs_ret qb))
            qss_nil)
          (qss_one (qs_if (QW.qt (qw_and (qt_cmp (c_inU huo___contains__ hr (by decide)) (qv 11) (qv 4)) (qw_and1 (qt_not (qt_val (qc h__law_entry_right hr (by decide) (qa_cons (q_methO hmo_Library_entry_1 hr (by decide) (qv 4) (qa_cons (qv 11) qa_nil)) (qa_cons (q_dget hr (q_ixO (qv 5) (qv 7)) (qv 11)) qa_nil))))))))
            (qss_one (qs_ret qb))
            qss_nil)))))))
        (qss_cons (qs_set (i := 12) nd qb)
        (qss_cons (qs_tryF (x := "NothingToUndo") (j := 12) he0_NothingToUndo nd (fun pn xe hpo =>
          (qss_one (qs_exprX (q_methOX0 hmox_Library_back_0 hr (by decide) (QE.x (qv 4)))))))
        (qss_one (qs_if (QW.qt (qw_or (qt_not (qt_val (qv 12))) (qw_or1 (qt_not (qt_val (qc h__law_shows hr (by decide) (qa_cons (qv 10) (qa_cons (q_ixO (qv 5) (q_neg qi)) (qa_cons (qv 6) qa_nil)))))))))
          (qss_one (qs_ret qb))
          qss_nil)))))))))))))
      (qss_one (qs_ret qb)))) ?_
  rintro ds M R - ⟨ns, rfl, hR⟩
  walk_at "w"
  refine vfor_rng1 2 (fun F h => by walk_at "w"; exact h) (by omega) (by omega) (fun i γ M' => Sub M M' ∧ ∃ x1 x2 x3 x4 x5 x6 x7 x8 x9 x10 x11 x12, γ = [some (.scr ns), x1, x2, x3, x4, x5, x6, x7, x8, x9, x10, x11, x12]) ⟨Sub.refl, _, _, _, _, _, _, _, _, _, _, _, _, rfl⟩ ?_ ?_
  · rintro i γ' M' ⟨hsub, x1, x2, x3, x4, x5, x6, x7, x8, x9, x10, x11, x12, rfl⟩ hi
    walk_at "w"
    refine ⟨ns, _, rfl, by omega, by omega, fun p m hp hm => ?_⟩
    walk_at "w"
    refine ⟨p, _, m, M', rfl, rfl, hm, by omega, fun nms m1 nl nd gn hm1 => ?_⟩
    walk_at "w"
    intro x hx
    refine ⟨x, rfl, mset_same, fun b hb => ⟨rfl, fun k hk => ⟨rfl, fun s hs q hq => ?_⟩⟩⟩
    obtain ⟨hx, xp⟩ := mset_none hx
    obtain ⟨hb, bx⟩ := mset_none hb
    obtain ⟨hb, bp⟩ := mset_none hb
    rw [libM_mx bx] at hk hs hq ⊢
    have kx : k ≠ x := fun e => by rw [e, libM_x] at hk; cases hk
    have kb : k ≠ b := fun e => by rw [e, libM_b bx] at hk; cases hk
    rw [libM_o kx kb] at hk
    obtain ⟨hk, kp⟩ := mset_none hk
    obtain ⟨hs, sk⟩ := mset_none hs
    have sx : s ≠ x := fun e => by rw [e, libM_x] at hs; cases hs
    have sb : s ≠ b := fun e => by rw [e, libM_b bx] at hs; cases hs
    rw [libM_o sx sb] at hs
    obtain ⟨hs, sp⟩ := mset_none hs
    obtain ⟨hq, qs⟩ := mset_none hq
    obtain ⟨hq, qk⟩ := mset_none hq
    have qx : q ≠ x := fun e => by rw [e, libM_x] at hq; cases hq
    have qb : q ≠ b := fun e => by rw [e, libM_b bx] at hq; cases hq
    rw [libM_o qx qb] at hq
    obtain ⟨hq, qp⟩ := mset_none hq
    have ff : F96 M' p x b s q nms := ⟨hp, hx, hb, hs, hq, bp.symm, qp.symm, qb.symm, gn, nl, nd⟩
    have j0 : J96 M' p x b s q nms (1000 * i + 20000) [(k, [])] [] [] 0 (mset (mset (mset (libM (mset M' p m1) x b [] []) k (.dct [] [])) s (.lso [.own k])) q (.lst [])) := by
      refine ⟨⟨m1, by rw [mset_ne qp.symm, mset_ne sp.symm, mset_ne kp.symm, libM_o xp.symm bp.symm, mset_same], hm1⟩, by rw [mset_ne qx.symm, mset_ne sx.symm, mset_ne kx.symm, libM_x], by rw [mset_ne qb.symm, mset_ne sb.symm, mset_ne kb.symm, libM_b bx]; rfl, by rw [mset_ne qs.symm, mset_same]; rfl, mset_same, fun z hz => ?_, rfl, fun z hz a e he => ?_, kOk_nil, ⟨(k, []), rfl, rfl⟩, fun i told o h => by simp at h, sub_mset (sub_mset (sub_mset (sub_libM (sub_mset Sub.refl hp) hx hb) hk) hs) hq⟩
      · simp only [List.mem_singleton] at hz
        subst hz
        exact ⟨[], [], by rw [mset_ne qk.symm, mset_ne sk.symm, mset_same], kd_nil, rfl⟩
      · simp only [List.mem_singleton] at hz
        subst hz
        cases he
    generalize (mset (mset (mset (libM (mset M' p m1) x b [] []) k (.dct [] [])) s (.lso [.own k])) q (.lst [])) = N at j0 ⊢
    clear hk hs hq hx hb kx kb kp sk sx sb sp qs qk qx qb qp xp bx bp
    refine vfor_rng1 300 (fun F z => by walk_at "w"; exact z) (by omega) (by omega) (fun t γ N => ∃ sts ss kv y7 y8 y9, γ = [some (.scr ns), some (.int i), some (.own p), some (.lst (nms.map .str)), some (.own x), some (.own s), some (.own q), y7, y8, y9, x10, x11, x12] ∧ J96 M' p x b s q nms (1000 * i + 20000 + 5000 * t) sts ss kv ss.length N ∧ ss.length = t ∧ ∀ j n, t ≤ j → nms[j]? = some n → lkp kv n = none) ⟨[(k, [])], [], [], x7, x8, x9, rfl, by simpa using j0, rfl, fun _ _ _ _ => rfl⟩ ?_ ?_
    · rintro t _ N ⟨sts, ss, kv, y7, y8, y9, rfl, j, sl, hn⟩ ht
      have ht : t < 300 := ht
      obtain ⟨xp, xb, xs, xq, sp, sb, sq, zk⟩ := j.ne
      obtain ⟨z0, hz0, ez0⟩ := j.at_
      have zin := List.mem_of_getElem? hz0
      obtain ⟨ks, es, hk0, kd0, pe0⟩ := j.hk z0 zin
      rw [← ez0] at kd0
      obtain ⟨m, hp, hm⟩ := j.hp
      have kl := kl_of ff j
      have jb := j.hb
      rw [List.take_length] at jb
      have slt : (ss.map fun s => stD s.1 s.2).length < sizeLine := by rw [List.length_map]; exact Nat.lt_trans (show ss.length < 300 by omega) (by decide)
      have al : L2.atI (sts.map fun z => D.own z.1) (-1) = some (.own z0.1) := atI_last (n := ss.length) (by rw [List.length_map, j.len]) (by rw [List.getElem?_map, hz0]; rfl)
      walk_at "w"
      refine ⟨fun lt40 => ?_, fun ge40 => ?_⟩
      · refine ⟨s, _, -1, .own z0.1, rfl, j.hs, rfl, al, .inr ⟨_, rfl, by rw [hk0]; rfl⟩, ?_⟩
        walk_at "w"
        obtain ⟨nm, hnm⟩ : ∃ nm, nms[t]? = some nm := ⟨_, List.getElem?_eq_getElem (by omega)⟩
        have nin := List.mem_of_getElem? hnm
        refine ⟨.str nm, L2.atI_nat (by rw [List.getElem?_map, hnm]; rfl), ?_⟩
        rw [← mset_at hp]
        refine ⟨p, _, m, N, rfl, rfl, hm, by omega, fun e m' he hm' => ?_⟩
        have j1 := j.draw ff (hm'.mono (show _ ≤ 1000 * (i : Int) + 20000 + 5000 * ((t + 1 : Nat) : Int) by omega))
        generalize mset N p m' = N1 at j1 ⊢
        clear hk0
        obtain ⟨ks, es, hk0, kd0, pe0⟩ := j1.hk z0 zin
        rw [← ez0] at kd0
        have jb := j1.hb
        rw [List.take_length] at jb
        refine ⟨x, b, z0.1, kv, _, ks, es, nm, e, rfl, j1.hx, jb, hk0, kd0, pe0, j.ok, by omega, slt, gn nm nin, hn t nm (Nat.le_refl _) hnm, he.lt, fun kv' st k2 ks' es' h1 h2 h3 => ?_⟩
        obtain ⟨hs2, hq2⟩ := j1.two (d := .own k2) (ks := ks') (es := es') h1 ff.bq
        refine ⟨rfl, s, _, rfl, hs2, _, hs2, rfl, by rw [List.length_map, j.len]; exact Nat.lt_trans (show ss.length + 1 < 302 by omega) (by decide), lstAt_of hq2, ?_⟩
        rw [hq2]
        refine ⟨rfl, by rw [List.length_map]; exact Nat.lt_trans (show ss.length < 300 by omega) (by decide), sts ++ [(k2, kv')], ss ++ [([.str "put", .str nm], lkp kv nm)], kv', _, _, _, rfl, J96.step ff j1 nin (tl_str (s := "put") (gn nm nin) (by decide +kernel)) (fun e' z => by cases z; exact he) st h1 h2 h3, by rw [List.length_append, sl]; rfl, fun j' n' hj' hn' => ?_⟩
        rw [st.at_, if_neg (fun z => ?_)]
        · exact hn j' n' (by omega) hn'
        · subst z
          obtain ⟨l1, a1⟩ := List.getElem?_eq_some_iff.mp hn'
          obtain ⟨l2, a2⟩ := List.getElem?_eq_some_iff.mp hnm
          exact List.pairwise_iff_getElem.mp nd t j' l2 l1 (by omega) (a2.trans a1.symm)
      · refine ⟨s, _, -1, .own z0.1, rfl, j.hs, rfl, al, .inr ⟨_, rfl, by rw [hk0]; rfl⟩, ?_⟩
        walk_at "w"
        have een : ∀ n e, lkp kv n = some e → E96 e := fun n e he => (j.en z0 zin n e (by rw [← ez0]; exact he)).2
        refine ⟨p, x, b, z0.1, m, _, kv, _, ks, es, nms, rfl, hp, hm, by omega, j.hx, jb, ff.pb, hk0, kd0, pe0, j.ok, by omega, slt, nl, gn, een, fun m' told nm o hm' nin tl eo kv' st k2 ks' es' h1 h2 h3 => ?_⟩
        have j1 := j.draw ff (hm'.mono (show _ ≤ 1000 * (i : Int) + 20000 + 5000 * ((t + 1 : Nat) : Int) by omega))
        generalize mset N p m' = N1 at j1 h1 ⊢
        obtain ⟨hs2, hq2⟩ := j1.two (d := .own k2) (ks := ks') (es := es') h1 ff.bq
        refine ⟨rfl, s, _, rfl, hs2, _, hs2, rfl, by rw [List.length_map, j.len]; exact Nat.lt_trans (show ss.length + 1 < 302 by omega) (by decide), lstAt_of hq2, ?_⟩
        rw [hq2]
        refine ⟨tl.pu, by rw [List.length_map]; exact Nat.lt_trans (show ss.length < 300 by omega) (by decide), sts ++ [(k2, kv')], ss ++ [(told, lkp kv nm)], kv', _, _, _, rfl, J96.step ff j1 nin tl eo st h1 h2 h3, by rw [List.length_append, sl]; rfl, fun j' n' hj' hn' => ?_⟩
        rw [List.getElem?_eq_none (by omega)] at hn'
        cases hn'
    · rintro _ N ⟨sts, ss, kv, y7, y8, y9, rfl, j, sl, _⟩
      have sl : ss.length = 300 := sl
      obtain ⟨xp, xb, xs, xq, sp, sb, sq, zk⟩ := j.ne
      obtain ⟨z0, hz0, ez0⟩ := j.at_
      have zin := List.mem_of_getElem? hz0
      obtain ⟨ks, es, hk0, kd0, pe0⟩ := j.hk z0 zin
      have lb := lb_of ff j (by omega)
      rw [List.take_length] at lb
      have al : L2.atI (sts.map fun z => D.own z.1) (-1) = some (.own z0.1) := atI_last (n := ss.length) (by rw [List.length_map, j.len]) (by rw [List.getElem?_map, hz0]; rfl)
      have jb := j.hb
      rw [List.take_length] at jb
      walk_at "w"
      refine ⟨s, _, -1, .own z0.1, rfl, j.hs, rfl, al, .inr ⟨_, rfl, by rw [hk0]; rfl⟩, ?_⟩
      walk_at "w"
      rw [← ez0] at kd0
      have slt : (ss.map fun s => stD s.1 s.2).length < sizeLine := by rw [List.length_map, sl]; decide
      have een : ∀ n e, lkp kv n = some e → E96 e := fun n e he => (j.en z0 zin n e (by rw [← ez0]; exact he)).2
      refine ⟨x, b, z0.1, .own q, nms, kv, ss, ks, es, rfl, j.hx, jb, hk0, kd0, .inr ⟨q, rfl, j.hq⟩, lb, ?_⟩
      refine ⟨fun z => (by cases z), fun _ => ⟨s, _, -1, .own z0.1, rfl, j.hs, rfl, al, .inr ⟨_, rfl, by rw [hk0]; rfl⟩, ?_⟩⟩
      refine ⟨x, b, z0.1, nms, kv, ks, es, rfl, j.hx, hk0, kd0, nl, gn, een, ?_⟩
      refine ⟨fun z => (by cases z), fun _ => ?_⟩
      rw [j.hx]
      unfold lbO
      refine ⟨rfl, x, b, kv, _, rfl, j.hx, jb, pure_steps j, slt, fun y hy c hc cy => ?_⟩
      have yx : y ≠ x := fun z => by rw [z, j.hx] at hy; cases hy
      have yb : y ≠ b := fun z => by rw [z, jb] at hy; cases hy
      have cx : c ≠ x := fun z => by rw [z, j.hx] at hc; cases hc
      have cb : c ≠ b := fun z => by rw [z, jb] at hc; cases hc
      have j2 := j.mono (sub_libM (kw := kv) (su := ss.map fun s => stD s.1 s.2) Sub.refl hy hc)
      have hy2 : libM N y c kv (ss.map fun s => stD s.1 s.2) y = some (lbO kv c) := libM_x
      have hc2 : libM N y c kv (ss.map fun s => stD s.1 s.2) c = some (.lst (ss.map fun s => stD s.1 s.2)) := libM_b cy
      generalize libM N y c kv (ss.map fun s => stD s.1 s.2) = N2 at j2 hy2 hc2 ⊢
      clear j jb hk0
      obtain ⟨kv0, hkv0⟩ : ∃ k, k = kv := ⟨_, rfl⟩
      rw [← hkv0] at hy2 kd0 lb ez0 een
      dsimp only
      refine vfor_dn 299 (-1) (fun F z => by walk_at "w"; exact z) (by decide) (by decide) (by decide) (by decide) (fun u γ N => ∃ kv y7 y11, γ = [some (.scr ns), some (.int i), some (.own p), some (.lst (nms.map .str)), some (.own x), some (.own s), some (.own q), y7, y8, y9, some (.own y), y11, x12] ∧ J96 M' p x b s q nms (1000 * i + 20000 + 5000 * (Int.toNat 300 : Nat)) sts ss kv (300 - u) N ∧ N y = some (lbO kv0 c) ∧ N c = some (.lst (ss.map fun s => stD s.1 s.2))) ⟨kv, _, _, rfl, by rw [sl] at j2; exact j2, hy2, hc2⟩ ?_ ?_
      · rintro u _ N ⟨kv, y7, y11, rfl, j, hy3, hc3⟩ hu
        have hu : u < 300 := hu
        obtain ⟨t, ht⟩ : ∃ t, 300 - u = t + 1 := ⟨299 - u, by omega⟩
        rw [ht] at j
        have et : (299 : Int) - (u : Int) = (t : Int) := by omega
        rw [et]
        obtain ⟨⟨told, o⟩, hi⟩ : ∃ s, ss[t]? = some s := ⟨_, List.getElem?_eq_getElem (by omega)⟩
        obtain ⟨nm, z, z', nin, tl, hz, hz', eo, same⟩ := j.st t told o hi
        have hb3 : N b = some (.lst (((ss.take t).map fun s => stD s.1 s.2) ++ [stD told o])) := by
          rw [j.hb, List.take_add_one, hi, List.map_append]
          rfl
        have kl := kl_of ff j
        walk_at "w"
        rw [j.hx]
        unfold lbO
        refine ⟨rfl, x, b, kv, _, told, nm, o, rfl, j.hx, hb3, j.ok, by omega, tl.at_, tl.pu, fun kv' st => ?_⟩
        have j3 := J96.back (told := told) ff j hz hz' eo same st
        have hy4 : libM N x b kv' ((ss.take t).map fun s => stD s.1 s.2) y = some (lbO kv0 c) := by rw [libM_o yx yb]; exact hy3
        have hc4 : libM N x b kv' ((ss.take t).map fun s => stD s.1 s.2) c = some (.lst (ss.map fun s => stD s.1 s.2)) := by rw [libM_o cx cb]; exact hc3
        generalize libM N x b kv' ((ss.take t).map fun s => stD s.1 s.2) = N3 at j3 hy4 hc4 ⊢
        obtain ⟨z1, hz1, ez1⟩ := j3.at_
        rw [hz] at hz1
        cases hz1
        obtain ⟨ks, es, hk3, kd3, pe3⟩ := j3.hk z (List.mem_of_getElem? hz)
        rw [← ez1] at kd3
        have al3 : L2.atI (sts.map fun z => D.own z.1) (t : Int) = some (.own z.1) := L2.atI_nat (by rw [List.getElem?_map, hz]; rfl)
        dsimp only
        refine ⟨fun γ Mx => Mx = N3 ∧ γ = [some (.scr ns), some (.int i), some (.own p), some (.lst (nms.map .str)), some (.own x), some (.own s), some (.own q), some (.int t), y8, y9, some (.own y), y11, x12], ?_, ?_⟩
        · walk_at "w"
          intro _
          refine ⟨s, _, _, .own z.1, rfl, j3.hs, rfl, al3, .inr ⟨_, rfl, by rw [hk3]; rfl⟩, ?_⟩
          rw [j3.hq]
          dsimp only
          refine ⟨x, b, z.1, _, nms, kv', ss.take t, ks, es, rfl, j3.hx, j3.hb, hk3, kd3, .inl (by rw [cut_to _ _ (by omega), Int.toNat_natCast, List.map_take]), lb_of ff j3 (by omega), ?_⟩
          exact ⟨fun z => (by cases z), fun _ => rfl⟩
        · rintro _ N4 ⟨rfl, rfl⟩
          walk_at "w"
          rw [j3.hq]
          dsimp only
          refine ⟨.tup told, L2.atI_nat (by rw [List.getElem?_map, hi]; rfl), ?_⟩
          walk_at "w"
          rw [tl.at_]
          dsimp only
          rw [j3.hx]
          unfold lbO
          refine ⟨rfl, x, b, kv', .str nm, rfl, j3.hx, rfl, rfl, ?_⟩
          dsimp only
          refine ⟨s, _, _, .own z.1, rfl, j3.hs, rfl, al3, .inr ⟨_, rfl, by rw [hk3]; rfl⟩, ?_⟩
          rw [f_inDct rfl (dctI_own hk3), inNm_kd kd3]
          refine eqG_self (d := .bl (inNm kv' (.str nm))) rfl ⟨fun z => (by cases z), fun _ => ?_⟩
          rw [j3.hx]
          unfold lbO
          refine ⟨rfl, x, b, kv', .str nm, rfl, j3.hx, rfl, rfl, ?_⟩
          have ek : 300 - (u + 1) = t := by omega
          have fine : ∃ kv y7 y11, [some (D.scr ns), some (.int i), some (.own p), some (.lst (nms.map .str)), some (.own x), some (.own s), some (.own q), some (.int t), y8, y9, some (.own y), some (.str nm), x12] = [some (D.scr ns), some (.int i), some (.own p), some (.lst (nms.map .str)), some (.own x), some (.own s), some (.own q), y7, y8, y9, some (.own y), y11, x12] ∧ J96 M' p x b s q nms (1000 * i + 20000 + 5000 * (Int.toNat 300 : Nat)) sts ss kv (300 - (u + 1)) N4 ∧ N4 y = some (lbO kv0 c) ∧ N4 c = some (.lst (ss.map fun s => stD s.1 s.2)) := ⟨kv', _, _, rfl, by rw [ek]; exact j3, hy4, hc4⟩
          cases ei : lkp kv' nm with
          | none =>
            rw [show inNm kv' (.str nm) = false by show (lkp kv' nm).isSome = false; rw [ei]; rfl]
            exact ⟨fun z => (by cases z), fun _ => fine⟩
          | some e =>
            rw [show inNm kv' (.str nm) = true by show (lkp kv' nm).isSome = true; rw [ei]; rfl]
            refine ⟨fun _ => ?_, fun z => (by cases z)⟩
            rw [j3.hx]
            unfold lbO
            refine ⟨rfl, x, b, kv', nm, e, rfl, j3.hx, ei, ?_⟩
            refine ⟨s, _, _, .own z.1, rfl, j3.hs, rfl, al3, .inr ⟨_, rfl, by rw [hk3]; rfl⟩, ?_⟩
            rw [dctI_own hk3]
            simp only [show keyD (D.str nm) = some (.inr nm) from rfl]
            rw [kd3.val, ei]
            refine ⟨e, rfl, (j3.en z (List.mem_of_getElem? hz) nm e (by rw [← ez1]; exact ei)).2, ?_⟩
            exact ⟨fun z => (by cases z), fun _ => fine⟩
      · rintro _ N ⟨kv, y7, y11, rfl, j, hy3, hc3⟩
        have e0 : 300 - (299 - (-1 : Int)).toNat = 0 := by decide
        rw [e0] at j
        obtain ⟨ks, es, hk3, kd3, pe3⟩ := j.hk z0 zin
        rw [← ez0] at kd3
        walk_at "w"
        rw [j.hx]
        unfold lbO
        refine ⟨rfl, .inr ⟨x, b, kv, rfl, j.hx, j.hb, rfl, s, _, -1, .own z0.1, rfl, j.hs, rfl, al, .inr ⟨_, rfl, by rw [hk3]; rfl⟩, ?_⟩⟩
        refine ⟨y, c, z0.1, .own q, nms, kv0, ss, ks, es, rfl, hy3, hc3, hk3, kd3, .inr ⟨q, rfl, j.hq⟩, lb, ?_⟩
        exact ⟨fun z => (by cases z), fun _ => ⟨fun a m e => j.sub a m (hsub a m e), _, _, _, _, _, _, _, _, _, _, _, _, rfl⟩⟩
  · rintro γ' M' ⟨hsub, x1, x2, x3, x4, x5, x6, x7, x8, x9, x10, x11, x12, rfl⟩
    walk_at "w"
    exact fin_to M hsub (fun _ h => h) (hR _)
theorem facts {P : Program} {w : World} {K : PySem.W.Frag} {h : Heap} {mg : Str → Option Value} {f : Addr} (X : K.In h) (G : h.Ns mainGlobals mg) (hfa : mg ("law" : Str) = some (.ref f)) (hfile : P.main.file = ("/claim/cut.py" : Str)) (htop : (P.main.scope.names.lookup ("super" : Str)).isSome = false) (cc : Says4 exL faL fnL "/claim/cut.py" esL K) :
    ∃ fd : FuncData, (∀ (s : Shared) (v : Value), BindsTo s fd ⟨[v], []⟩ [("_law_script", v)]) ∧ ∀ base : Heap, K.In base → base.Ns mainGlobals mg → FnOk P w K mg base CX0 15 f fd ["_law_script"] (spD ⟨K, (He.ga K "Line")⟩ 1 S_law) := by
  obtain ⟨c, ce0⟩ := cc.1.both
  have ce := (He.ba ce0).1
  unfold exL at ce
  obtain ⟨ce0, ce⟩ := He.ba ce
  obtain ⟨ce1, ce⟩ := He.ba ce
  obtain ⟨ce2, ce⟩ := He.ba ce
  obtain ⟨ce3, ce⟩ := He.ba ce
  obtain ⟨ce4, ce⟩ := He.ba ce
  obtain ⟨ce5, ce⟩ := He.ba ce
  obtain ⟨ce6, ce⟩ := He.ba ce
  obtain ⟨ce7, ce⟩ := He.ba ce
  obtain ⟨ce8, ce⟩ := He.ba ce
  obtain ⟨ce9, ce⟩ := He.ba ce
  obtain ⟨ce10, ce⟩ := He.ba ce
  have T : Txt K mg := ⟨He.free_ok X G (c.fact 63 (f := .free "abs") rfl), He.free_ok X G (c.fact 64 (f := .free "bool") rfl), He.free_ok X G (c.fact 65 (f := .free "dict") rfl), He.free_ok X G (c.fact 66 (f := .free "enumerate") rfl), He.free_ok X G (c.fact 67 (f := .free "int") rfl), He.free_ok X G (c.fact 68 (f := .free "isinstance") rfl), He.free_ok X G (c.fact 69 (f := .free "len") rfl), He.free_ok X G (c.fact 70 (f := .free "list") rfl), He.free_ok X G (c.fact 71 (f := .free "max") rfl), He.free_ok X G (c.fact 72 (f := .free "min") rfl), He.free_ok X G (c.fact 73 (f := .free "range") rfl), He.free_ok X G (c.fact 74 (f := .free "repr") rfl), He.free_ok X G (c.fact 75 (f := .free "sorted") rfl), He.free_ok X G (c.fact 76 (f := .free "str") rfl), He.free_ok X G (c.fact 77 (f := .free "sum") rfl), He.free_ok X G (c.fact 78 (f := .free "tuple") rfl), He.str_ok X G (c.fact 79 (f := .str "LETTERS" "abcdefghijklmnopqrstuvwxyz") rfl), He.glo_ok X G (c.fact 100 (f := .glo "FourTestsError") rfl)⟩
  obtain ⟨fd_is_whole, F_is_whole⟩ := c.def_ 0 rfl
  have G_is_whole := He.glo_ok X G (c.fact 0 (f := .glo "is_whole") rfl)
  obtain ⟨fd_check_parts, F_check_parts⟩ := c.def_ 1 rfl
  have G_check_parts := He.glo_ok X G (c.fact 1 (f := .glo "check_parts") rfl)
  obtain ⟨fd_Line___init__, F_Line___init__⟩ := c.def_ 2 rfl
  obtain ⟨fd__law_mixed, F__law_mixed⟩ := c.def_ 3 rfl
  have G__law_mixed := He.glo_ok X G (c.fact 3 (f := .glo "_law_mixed") rfl)
  obtain ⟨fd__law_draw, F__law_draw⟩ := c.def_ 4 rfl
  have G__law_draw := He.glo_ok X G (c.fact 4 (f := .glo "_law_draw") rfl)
  obtain ⟨fd__law_entry, F__law_entry⟩ := c.def_ 5 rfl
  have G__law_entry := He.glo_ok X G (c.fact 5 (f := .glo "_law_entry") rfl)
  obtain ⟨fd_is_name, F_is_name⟩ := c.def_ 6 rfl
  have G_is_name := He.glo_ok X G (c.fact 6 (f := .glo "is_name") rfl)
  obtain ⟨fd_check_line, F_check_line⟩ := c.def_ 7 rfl
  have G_check_line := He.glo_ok X G (c.fact 7 (f := .glo "check_line") rfl)
  obtain ⟨fd_check_range, F_check_range⟩ := c.def_ 8 rfl
  have G_check_range := He.glo_ok X G (c.fact 8 (f := .glo "check_range") rfl)
  obtain ⟨fd_Library_set_entry, F_Library_set_entry⟩ := c.def_ 9 rfl
  obtain ⟨fd_Library_step, F_Library_step⟩ := c.def_ 10 rfl
  obtain ⟨fd_Library_put, F_Library_put⟩ := c.def_ 11 rfl
  obtain ⟨fd__law_put, F__law_put⟩ := c.def_ 12 rfl
  have G__law_put := He.glo_ok X G (c.fact 12 (f := .glo "_law_put") rfl)
  obtain ⟨fd_Library_check_kept, F_Library_check_kept⟩ := c.def_ 13 rfl
  obtain ⟨fd_Library_widen, F_Library_widen⟩ := c.def_ 14 rfl
  obtain ⟨fd_Library_change, F_Library_change⟩ := c.def_ 15 rfl
  obtain ⟨fd_Library_drop, F_Library_drop⟩ := c.def_ 16 rfl
  obtain ⟨fd__law_step, F__law_step⟩ := c.def_ 17 rfl
  have G__law_step := He.glo_ok X G (c.fact 17 (f := .glo "_law_step") rfl)
  obtain ⟨fd_Library_log, F_Library_log⟩ := c.def_ 18 rfl
  obtain ⟨fd_Library_names, F_Library_names⟩ := c.def_ 19 rfl
  obtain ⟨fd_Library___len__, F_Library___len__⟩ := c.def_ 20 rfl
  obtain ⟨fd_Library___contains__, F_Library___contains__⟩ := c.def_ 21 rfl
  obtain ⟨fd_Line_over, F_Line_over⟩ := c.def_ 22 rfl
  obtain ⟨fd_Line_plus, F_Line_plus⟩ := c.def_ 23 rfl
  obtain ⟨fd_Line_times, F_Line_times⟩ := c.def_ 24 rfl
  obtain ⟨fd_Line___repr__, F_Line___repr__⟩ := c.def_ 25 rfl
  obtain ⟨fd__law_entry_right, F__law_entry_right⟩ := c.def_ 26 rfl
  have G__law_entry_right := He.glo_ok X G (c.fact 26 (f := .glo "_law_entry_right") rfl)
  obtain ⟨fd_Library_entry, F_Library_entry⟩ := c.def_ 27 rfl
  obtain ⟨fd__law_shows, F__law_shows⟩ := c.def_ 28 rfl
  have G__law_shows := He.glo_ok X G (c.fact 28 (f := .glo "_law_shows") rfl)
  obtain ⟨fd_is_piece, F_is_piece⟩ := c.def_ 29 rfl
  have G_is_piece := He.glo_ok X G (c.fact 29 (f := .glo "is_piece") rfl)
  obtain ⟨fd_check_pieces, F_check_pieces⟩ := c.def_ 30 rfl
  have G_check_pieces := He.glo_ok X G (c.fact 30 (f := .glo "check_pieces") rfl)
  obtain ⟨fd_common_divisor, F_common_divisor⟩ := c.def_ 31 rfl
  have G_common_divisor := He.glo_ok X G (c.fact 31 (f := .glo "common_divisor") rfl)
  obtain ⟨fd_fraction, F_fraction⟩ := c.def_ 32 rfl
  have G_fraction := He.glo_ok X G (c.fact 32 (f := .glo "fraction") rfl)
  obtain ⟨fd_check_whole, F_check_whole⟩ := c.def_ 33 rfl
  have G_check_whole := He.glo_ok X G (c.fact 33 (f := .glo "check_whole") rfl)
  obtain ⟨fd_Line___call__, F_Line___call__⟩ := c.def_ 34 rfl
  obtain ⟨fd_lowered, F_lowered⟩ := c.def_ 35 rfl
  have G_lowered := He.glo_ok X G (c.fact 35 (f := .glo "lowered") rfl)
  obtain ⟨fd_raised, F_raised⟩ := c.def_ 36 rfl
  have G_raised := He.glo_ok X G (c.fact 36 (f := .glo "raised") rfl)
  obtain ⟨fd_greatest, F_greatest⟩ := c.def_ 37 rfl
  have G_greatest := He.glo_ok X G (c.fact 37 (f := .glo "greatest") rfl)
  obtain ⟨fd_place_of, F_place_of⟩ := c.def_ 38 rfl
  have G_place_of := He.glo_ok X G (c.fact 38 (f := .glo "place_of") rfl)
  obtain ⟨fd_low_slope, F_low_slope⟩ := c.def_ 39 rfl
  have G_low_slope := He.glo_ok X G (c.fact 39 (f := .glo "low_slope") rfl)
  obtain ⟨fd_Line___neg__, F_Line___neg__⟩ := c.def_ 40 rfl
  obtain ⟨fd_slopes, F_slopes⟩ := c.def_ 41 rfl
  have G_slopes := He.glo_ok X G (c.fact 41 (f := .glo "slopes") rfl)
  obtain ⟨fd_less, F_less⟩ := c.def_ 42 rfl
  have G_less := He.glo_ok X G (c.fact 42 (f := .glo "less") rfl)
  obtain ⟨fd_unfolded, F_unfolded⟩ := c.def_ 43 rfl
  have G_unfolded := He.glo_ok X G (c.fact 43 (f := .glo "unfolded") rfl)
  obtain ⟨fd_simple_between, F_simple_between⟩ := c.def_ 44 rfl
  have G_simple_between := He.glo_ok X G (c.fact 44 (f := .glo "simple_between") rfl)
  obtain ⟨fd_highest, F_highest⟩ := c.def_ 45 rfl
  have G_highest := He.glo_ok X G (c.fact 45 (f := .glo "highest") rfl)
  obtain ⟨fd_simplest, F_simplest⟩ := c.def_ 46 rfl
  have G_simplest := He.glo_ok X G (c.fact 46 (f := .glo "simplest") rfl)
  obtain ⟨fd_leaning, F_leaning⟩ := c.def_ 47 rfl
  have G_leaning := He.glo_ok X G (c.fact 47 (f := .glo "leaning") rfl)
  obtain ⟨fd_corners, F_corners⟩ := c.def_ 48 rfl
  have G_corners := He.glo_ok X G (c.fact 48 (f := .glo "corners") rfl)
  obtain ⟨fd_bars_of, F_bars_of⟩ := c.def_ 49 rfl
  have G_bars_of := He.glo_ok X G (c.fact 49 (f := .glo "bars_of") rfl)
  obtain ⟨fd_pieces_slopes, F_pieces_slopes⟩ := c.def_ 50 rfl
  have G_pieces_slopes := He.glo_ok X G (c.fact 50 (f := .glo "pieces_slopes") rfl)
  obtain ⟨fd_check_base, F_check_base⟩ := c.def_ 51 rfl
  have G_check_base := He.glo_ok X G (c.fact 51 (f := .glo "check_base") rfl)
  obtain ⟨fd_inside, F_inside⟩ := c.def_ 52 rfl
  have G_inside := He.glo_ok X G (c.fact 52 (f := .glo "inside") rfl)
  obtain ⟨fd_power, F_power⟩ := c.def_ 53 rfl
  have G_power := He.glo_ok X G (c.fact 53 (f := .glo "power") rfl)
  obtain ⟨fd_pieces_recipe, F_pieces_recipe⟩ := c.def_ 54 rfl
  have G_pieces_recipe := He.glo_ok X G (c.fact 54 (f := .glo "pieces_recipe") rfl)
  obtain ⟨fd_Library_together, F_Library_together⟩ := c.def_ 55 rfl
  obtain ⟨fd__law_together_right, F__law_together_right⟩ := c.def_ 56 rfl
  have G__law_together_right := He.glo_ok X G (c.fact 56 (f := .glo "_law_together_right") rfl)
  obtain ⟨fd__law_purse, F__law_purse⟩ := c.def_ 57 rfl
  have G__law_purse := He.glo_ok X G (c.fact 57 (f := .glo "_law_purse") rfl)
  obtain ⟨fd__law_names, F__law_names⟩ := c.def_ 58 rfl
  have G__law_names := He.glo_ok X G (c.fact 58 (f := .glo "_law_names") rfl)
  obtain ⟨fd_Library___init__, F_Library___init__⟩ := c.def_ 59 rfl
  obtain ⟨fd_Library_copy, F_Library_copy⟩ := c.def_ 60 rfl
  obtain ⟨fd_Library_back, F_Library_back⟩ := c.def_ 61 rfl
  obtain ⟨fd_law, F_law⟩ := c.def_ 62 rfl
  have G_law := He.glo_ok X G (c.fact 62 (f := .glo "law") rfl)
  have cl : Cls K (He.ga K "Line") ∧ NoAttr K (He.ga K "Line") "parts" := ⟨He.cls_ok (c.fact 80 (f := .cls "Line") rfl), He.noat_ok (c.fact 81 (f := .noat "Line" "parts") rfl)⟩
  have G_Line := He.glo_ok X G (c.fact 82 (f := .glo "Line") rfl)
  have h_isL : IsiF K mg (He.ga K "Line") := isiB_ok G_Line cl.1 ce0
  have oc_Library : OCls K "Library" := oclsB_ok (He.cls_ok (c.fact 84 (f := .cls "Library") rfl)) ce10
  have G_Library := He.glo_ok X G (c.fact 85 (f := .glo "Library") rfl)
  have e := hfa.symm.trans G_law
  cases e
  have bl := FunD.bindsA (ps := ["_law_script"]) F_law fun _ _ _ _ _ _ us hl => match us, hl with | [_], _ => rfl
  refine ⟨fd_law, fun s v => bl s [v] rfl, fun base _ _ => ?_⟩
  have he0_NothingToUndo : ExK0 K mg "NothingToUndo" := exk0B_ok (He.glo_ok X G (c.fact 108 (f := .glo "NothingToUndo") rfl)) ce9
  have k_is_whole : FnOk P w K mg base CX0 1 _ fd_is_whole ["value"] (spD ⟨K, (He.ga K "Line")⟩ 1 S_is_whole) := ok_is_whole T F_is_whole h_isL
  have h_is_whole : CallOk P w K mg base (He.ga K "Line") 1 "is_whole" 1 S_is_whole [] := call_all G_is_whole F_is_whole k_is_whole (fun _ _ _ _ _ _ us hl => match us, hl with | [_], _ => rfl)
  have k_check_parts : FnOk P w K mg base CX0 2 _ fd_check_parts ["times", "plus", "over"] (spD ⟨K, (He.ga K "Line")⟩ 3 S_check_parts) := ok_check_parts T F_check_parts h_is_whole
  have h_check_parts : CallOk P w K mg base (He.ga K "Line") 2 "check_parts" 3 S_check_parts [] := call_all G_check_parts F_check_parts k_check_parts (fun _ _ _ _ _ _ us hl => match us, hl with | [_, _, _], _ => rfl)
  have k_Line___init__ : FnOk P w K mg base CX0 3 _ fd_Line___init__ ["self", "times", "plus", "over"] (spLn (He.ga K "Line")) := ok_Line___init__ T F_Line___init__ h_check_parts cl
  have h_Line : LMk P w K mg base (He.ga K "Line") 3 := ⟨_, _, _, G_Line, He.mkr_ok (c.fact 83 (f := .mkr "Line") rfl), k_Line___init__, F_Line___init__.bindsN (fun _ _ _ _ _ _ us hl => match us, hl with | [_, _, _, _], _ => rfl)⟩
  have k__law_mixed : FnOk P w K mg base CX0 1 _ fd__law_mixed ["_law_cell", "_law_k"] (spD ⟨K, (He.ga K "Line")⟩ 2 S__law_mixed) := ok__law_mixed T F__law_mixed 
  have h__law_mixed : CallOk P w K mg base (He.ga K "Line") 1 "_law_mixed" 2 S__law_mixed [] := call_all G__law_mixed F__law_mixed k__law_mixed (fun _ _ _ _ _ _ us hl => match us, hl with | [_, _], _ => rfl)
  have k__law_draw : FnOk P w K mg base CX0 2 _ fd__law_draw ["_law_purse_here", "_law_out_of"] (spD ⟨K, (He.ga K "Line")⟩ 2 S__law_draw) := ok__law_draw T F__law_draw h__law_mixed
  have h__law_draw : CallOk P w K mg base (He.ga K "Line") 2 "_law_draw" 2 S__law_draw [] := call_all G__law_draw F__law_draw k__law_draw (fun _ _ _ _ _ _ us hl => match us, hl with | [_, _], _ => rfl)
  have k__law_entry : FnOk P w K mg base CX0 5 _ fd__law_entry ["_law_purse_here"] (spD ⟨K, (He.ga K "Line")⟩ 1 S__law_entry) := ok__law_entry T F__law_entry h_Line h__law_draw
  have h__law_entry : CallOk P w K mg base (He.ga K "Line") 5 "_law_entry" 1 S__law_entry [] := call_all G__law_entry F__law_entry k__law_entry (fun _ _ _ _ _ _ us hl => match us, hl with | [_], _ => rfl)
  have k_is_name : FnOk P w K mg base CX0 1 _ fd_is_name ["value"] (spD ⟨K, (He.ga K "Line")⟩ 1 S_is_name) := ok_is_name T F_is_name 
  have h_is_name : CallOk P w K mg base (He.ga K "Line") 1 "is_name" 1 S_is_name [] := call_all G_is_name F_is_name k_is_name (fun _ _ _ _ _ _ us hl => match us, hl with | [_], _ => rfl)
  have k_check_line : FnOk P w K mg base CX0 1 _ fd_check_line ["value"] (spD ⟨K, (He.ga K "Line")⟩ 1 S_check_line) := ok_check_line T F_check_line h_isL
  have h_check_line : CallOk P w K mg base (He.ga K "Line") 1 "check_line" 1 S_check_line [] := call_all G_check_line F_check_line k_check_line (fun _ _ _ _ _ _ us hl => match us, hl with | [_], _ => rfl)
  have k_check_range : FnOk P w K mg base CX0 2 _ fd_check_range ["low", "high"] (spD ⟨K, (He.ga K "Line")⟩ 2 S_check_range) := ok_check_range T F_check_range h_is_whole
  have h_check_range : CallOk P w K mg base (He.ga K "Line") 2 "check_range" 2 S_check_range [] := call_all G_check_range F_check_range k_check_range (fun _ _ _ _ _ _ us hl => match us, hl with | [_, _], _ => rfl)
  have k_Library_set_entry : FnOk P w K mg base CX0 1 _ fd_Library_set_entry ["self", "name", "found"] (spD ⟨K, (He.ga K "Line")⟩ 3 S_Library_set_entry) := ok_Library_set_entry T F_Library_set_entry oc_Library
  have hmo_Library_set_entry_2 : MOkO P w K mg base (He.ga K "Line") 1 "Library" "set_entry" 3 S_Library_set_entry [] := metho_all oc_Library (He.meth_ok (c.fact 96 (f := .meth "Library" "set_entry") rfl)) (by decide +kernel) F_Library_set_entry k_Library_set_entry (fun _ _ _ _ _ _ us hl => match us, hl with | [_, _, _], _ => rfl)
  have k_Library_step : FnOk P w K mg base CX0 2 _ fd_Library_step ["self", "told", "found"] (spD ⟨K, (He.ga K "Line")⟩ 3 S_Library_step) := ok_Library_step T F_Library_step oc_Library hmo_Library_set_entry_2
  have hmo_Library_step_2 : MOkO P w K mg base (He.ga K "Line") 2 "Library" "step" 3 S_Library_step [] := metho_all oc_Library (He.meth_ok (c.fact 97 (f := .meth "Library" "step") rfl)) (by decide +kernel) F_Library_step k_Library_step (fun _ _ _ _ _ _ us hl => match us, hl with | [_, _, _], _ => rfl)
  have k_Library_put : FnOk P w K mg base CX0 3 _ fd_Library_put ["self", "name", "line", "low", "high"] (spD ⟨K, (He.ga K "Line")⟩ 5 S_Library_put) := ok_Library_put T F_Library_put h_is_name oc_Library h_check_line h_check_range hmo_Library_step_2
  have hmo_Library_put_4 : MOkO P w K mg base (He.ga K "Line") 3 "Library" "put" 5 S_Library_put [] := metho_all oc_Library (He.meth_ok (c.fact 95 (f := .meth "Library" "put") rfl)) (by decide +kernel) F_Library_put k_Library_put (fun _ _ _ _ _ _ us hl => match us, hl with | [_, _, _, _, _], _ => rfl)
  have k__law_put : FnOk P w K mg base CX0 4 _ fd__law_put ["_law_library", "_law_kept", "_law_name", "_law_entry_here"] (spD ⟨K, (He.ga K "Line")⟩ 4 S__law_put) := ok__law_put T F__law_put hmo_Library_put_4
  have h__law_put : CallOk P w K mg base (He.ga K "Line") 4 "_law_put" 4 S__law_put [] := call_all G__law_put F__law_put k__law_put (fun _ _ _ _ _ _ us hl => match us, hl with | [_, _, _, _], _ => rfl)
  have k_Library_check_kept : FnOk P w K mg base CX0 1 _ fd_Library_check_kept ["self", "name"] (spD ⟨K, (He.ga K "Line")⟩ 2 S_Library_check_kept) := ok_Library_check_kept T F_Library_check_kept oc_Library h_isL
  have hmo_Library_check_kept_1 : MOkO P w K mg base (He.ga K "Line") 1 "Library" "check_kept" 2 S_Library_check_kept [] := metho_all oc_Library (He.meth_ok (c.fact 89 (f := .meth "Library" "check_kept") rfl)) (by decide +kernel) F_Library_check_kept k_Library_check_kept (fun _ _ _ _ _ _ us hl => match us, hl with | [_, _], _ => rfl)
  have k_Library_widen : FnOk P w K mg base CX0 3 _ fd_Library_widen ["self", "name", "low", "high"] (spD ⟨K, (He.ga K "Line")⟩ 4 S_Library_widen) := ok_Library_widen T F_Library_widen hmo_Library_check_kept_1 h_check_range oc_Library hmo_Library_step_2
  have hmo_Library_widen_3 : MOkO P w K mg base (He.ga K "Line") 3 "Library" "widen" 4 S_Library_widen [] := metho_all oc_Library (He.meth_ok (c.fact 99 (f := .meth "Library" "widen") rfl)) (by decide +kernel) F_Library_widen k_Library_widen (fun _ _ _ _ _ _ us hl => match us, hl with | [_, _, _, _], _ => rfl)
  have k_Library_change : FnOk P w K mg base CX0 3 _ fd_Library_change ["self", "name", "line"] (spD ⟨K, (He.ga K "Line")⟩ 3 S_Library_change) := ok_Library_change T F_Library_change hmo_Library_check_kept_1 h_check_line oc_Library hmo_Library_step_2
  have hmo_Library_change_2 : MOkO P w K mg base (He.ga K "Line") 3 "Library" "change" 3 S_Library_change [] := metho_all oc_Library (He.meth_ok (c.fact 88 (f := .meth "Library" "change") rfl)) (by decide +kernel) F_Library_change k_Library_change (fun _ _ _ _ _ _ us hl => match us, hl with | [_, _, _], _ => rfl)
  have k_Library_drop : FnOk P w K mg base CX0 3 _ fd_Library_drop ["self", "name"] (spD ⟨K, (He.ga K "Line")⟩ 2 S_Library_drop) := ok_Library_drop T F_Library_drop hmo_Library_check_kept_1 hmo_Library_step_2
  have hmo_Library_drop_1 : MOkO P w K mg base (He.ga K "Line") 3 "Library" "drop" 2 S_Library_drop [] := metho_all oc_Library (He.meth_ok (c.fact 91 (f := .meth "Library" "drop") rfl)) (by decide +kernel) F_Library_drop k_Library_drop (fun _ _ _ _ _ _ us hl => match us, hl with | [_, _], _ => rfl)
  have k__law_step : FnOk P w K mg base CX0 6 _ fd__law_step ["_law_purse_here", "_law_library", "_law_kept", "_law_names_here"] (spD ⟨K, (He.ga K "Line")⟩ 4 S__law_step) := ok__law_step T F__law_step h__law_draw h__law_entry h__law_put hmo_Library_widen_3 hmo_Library_change_2 hmo_Library_drop_1
  have h__law_step : CallOk P w K mg base (He.ga K "Line") 6 "_law_step" 4 S__law_step [] := call_all G__law_step F__law_step k__law_step (fun _ _ _ _ _ _ us hl => match us, hl with | [_, _, _, _], _ => rfl)
  have k_Library_log : FnOk P w K mg base CX0 1 _ fd_Library_log ["self"] (spD ⟨K, (He.ga K "Line")⟩ 1 S_Library_log) := ok_Library_log T F_Library_log oc_Library
  have hmo_Library_log_0 : MOkO P w K mg base (He.ga K "Line") 1 "Library" "log" 1 S_Library_log [] := metho_all oc_Library (He.meth_ok (c.fact 93 (f := .meth "Library" "log") rfl)) (by decide +kernel) F_Library_log k_Library_log (fun _ _ _ _ _ _ us hl => match us, hl with | [_], _ => rfl)
  have k_Library_names : FnOk P w K mg base CX0 1 _ fd_Library_names ["self"] (spD ⟨K, (He.ga K "Line")⟩ 1 S_Library_names) := ok_Library_names T F_Library_names oc_Library
  have hmo_Library_names_0 : MOkO P w K mg base (He.ga K "Line") 1 "Library" "names" 1 S_Library_names [] := metho_all oc_Library (He.meth_ok (c.fact 94 (f := .meth "Library" "names") rfl)) (by decide +kernel) F_Library_names k_Library_names (fun _ _ _ _ _ _ us hl => match us, hl with | [_], _ => rfl)
  have k_Library___len__ : FnOk P w K mg base CX0 1 _ fd_Library___len__ ["self"] (spD ⟨K, (He.ga K "Line")⟩ 1 S_Library___len__) := ok_Library___len__ T F_Library___len__ oc_Library
  have huo___len__ : UOkO P w K mg base (He.ga K "Line") 1 "Library" "__len__" 1 S_Library___len__ := ⟨_, _, _, (opB_ok ce5).1, (opB_ok ce5).2, k_Library___len__, F_Library___len__.bindsN (fun _ _ _ _ _ _ us hl => match us, hl with | [_], _ => rfl)⟩
  have k_Library___contains__ : FnOk P w K mg base CX0 1 _ fd_Library___contains__ ["self", "name"] (spD ⟨K, (He.ga K "Line")⟩ 2 S_Library___contains__) := ok_Library___contains__ T F_Library___contains__ oc_Library h_isL
  have huo___contains__ : UOkO P w K mg base (He.ga K "Line") 1 "Library" "__contains__" 2 S_Library___contains__ := ⟨_, _, _, (opB_ok ce6).1, (opB_ok ce6).2, k_Library___contains__, F_Library___contains__.bindsN (fun _ _ _ _ _ _ us hl => match us, hl with | [_, _], _ => rfl)⟩
  have k_Line_over : FnOk P w K mg base CX0 1 _ fd_Line_over ["self"] (spD ⟨K, (He.ga K "Line")⟩ 1 S_Line_over) := ok_Line_over T F_Line_over cl
  have hp_over : POk P w K mg base (He.ga K "Line") 1 "over" S_Line_over := ⟨_, _, _, _, cl.1, propB_ok ce1, k_Line_over, F_Line_over.bindsN (fun _ _ _ _ _ _ us hl => match us, hl with | [_], _ => rfl)⟩
  have k_Line_plus : FnOk P w K mg base CX0 1 _ fd_Line_plus ["self"] (spD ⟨K, (He.ga K "Line")⟩ 1 S_Line_plus) := ok_Line_plus T F_Line_plus cl
  have hp_plus : POk P w K mg base (He.ga K "Line") 1 "plus" S_Line_plus := ⟨_, _, _, _, cl.1, propB_ok ce2, k_Line_plus, F_Line_plus.bindsN (fun _ _ _ _ _ _ us hl => match us, hl with | [_], _ => rfl)⟩
  have k_Line_times : FnOk P w K mg base CX0 1 _ fd_Line_times ["self"] (spD ⟨K, (He.ga K "Line")⟩ 1 S_Line_times) := ok_Line_times T F_Line_times cl
  have hp_times : POk P w K mg base (He.ga K "Line") 1 "times" S_Line_times := ⟨_, _, _, _, cl.1, propB_ok ce3, k_Line_times, F_Line_times.bindsN (fun _ _ _ _ _ _ us hl => match us, hl with | [_], _ => rfl)⟩
  have k_Line___repr__ : FnOk P w K mg base CX0 3 _ fd_Line___repr__ ["self"] (spD ⟨K, (He.ga K "Line")⟩ 1 S_Line___repr__) := ok_Line___repr__ T F_Line___repr__ hp_over hp_plus hp_times
  have hur___repr__ : UOk P w K mg base (He.ga K "Line") 3 "__repr__" 1 S_Line___repr__ := ⟨_, _, _, (opB_ok ce4).1, (opB_ok ce4).2, k_Line___repr__, F_Line___repr__.bindsN (fun _ _ _ _ _ _ us hl => match us, hl with | [_], _ => rfl)⟩
  have k__law_entry_right : FnOk P w K mg base CX0 5 _ fd__law_entry_right ["_law_found", "_law_due"] (spD ⟨K, (He.ga K "Line")⟩ 2 S__law_entry_right) := ok__law_entry_right T F__law_entry_right hur___repr__
  have h__law_entry_right : CallOk P w K mg base (He.ga K "Line") 5 "_law_entry_right" 2 S__law_entry_right [] := call_all G__law_entry_right F__law_entry_right k__law_entry_right (fun _ _ _ _ _ _ us hl => match us, hl with | [_, _], _ => rfl)
  have k_Library_entry : FnOk P w K mg base CX0 2 _ fd_Library_entry ["self", "name"] (spD ⟨K, (He.ga K "Line")⟩ 2 S_Library_entry) := ok_Library_entry T F_Library_entry hmo_Library_check_kept_1 oc_Library
  have hmo_Library_entry_1 : MOkO P w K mg base (He.ga K "Line") 2 "Library" "entry" 2 S_Library_entry [] := metho_all oc_Library (He.meth_ok (c.fact 92 (f := .meth "Library" "entry") rfl)) (by decide +kernel) F_Library_entry k_Library_entry (fun _ _ _ _ _ _ us hl => match us, hl with | [_, _], _ => rfl)
  have k__law_shows : FnOk P w K mg base CX0 6 _ fd__law_shows ["_law_library", "_law_kept", "_law_log"] (spD ⟨K, (He.ga K "Line")⟩ 3 S__law_shows) := ok__law_shows T F__law_shows hmo_Library_log_0 hmo_Library_names_0 huo___len__ huo___contains__ h__law_entry_right hmo_Library_entry_1
  have h__law_shows : CallOk P w K mg base (He.ga K "Line") 6 "_law_shows" 3 S__law_shows [] := call_all G__law_shows F__law_shows k__law_shows (fun _ _ _ _ _ _ us hl => match us, hl with | [_, _, _], _ => rfl)
  have k_is_piece : FnOk P w K mg base CX0 2 _ fd_is_piece ["value"] (spD ⟨K, (He.ga K "Line")⟩ 1 S_is_piece) := ok_is_piece T F_is_piece h_isL h_is_whole
  have h_is_piece : CallOk P w K mg base (He.ga K "Line") 2 "is_piece" 1 S_is_piece [] := call_all G_is_piece F_is_piece k_is_piece (fun _ _ _ _ _ _ us hl => match us, hl with | [_], _ => rfl)
  have k_check_pieces : FnOk P w K mg base CX0 3 _ fd_check_pieces ["pieces"] (spD ⟨K, (He.ga K "Line")⟩ 1 S_check_pieces) := ok_check_pieces T F_check_pieces h_is_piece
  have h_check_pieces : CallOk P w K mg base (He.ga K "Line") 3 "check_pieces" 1 S_check_pieces [] := call_all G_check_pieces F_check_pieces k_check_pieces (fun _ _ _ _ _ _ us hl => match us, hl with | [_], _ => rfl)
  have k_common_divisor : FnOk P w K mg base CX0 1 _ fd_common_divisor ["one", "other"] (spD ⟨K, (He.ga K "Line")⟩ 2 S_common_divisor) := ok_common_divisor T F_common_divisor 
  have h_common_divisor : CallOk P w K mg base (He.ga K "Line") 1 "common_divisor" 2 S_common_divisor [] := call_all G_common_divisor F_common_divisor k_common_divisor (fun _ _ _ _ _ _ us hl => match us, hl with | [_, _], _ => rfl)
  have k_fraction : FnOk P w K mg base CX0 2 _ fd_fraction ["top", "bottom"] (spD ⟨K, (He.ga K "Line")⟩ 2 S_fraction) := ok_fraction T F_fraction h_common_divisor
  have h_fraction : CallOk P w K mg base (He.ga K "Line") 2 "fraction" 2 S_fraction [] := call_all G_fraction F_fraction k_fraction (fun _ _ _ _ _ _ us hl => match us, hl with | [_, _], _ => rfl)
  have k_check_whole : FnOk P w K mg base CX0 2 _ fd_check_whole ["value", "least"] (spD ⟨K, (He.ga K "Line")⟩ 2 S_check_whole) := ok_check_whole T F_check_whole h_is_whole
  have h_check_whole_1 : CallOk P w K mg base (He.ga K "Line") 2 "check_whole" 2 S_check_whole [.non] := call_dfl _ 1 0 G_check_whole F_check_whole k_check_whole (by simp [He5.DefA.dvs]) rfl rfl (fun _ _ _ _ _ _ _ us its hl hi => match us, its, hl, hi with | [_], [_], _, _ => ⟨_, rfl, rfl⟩)
  have k_Line___call__ : FnOk P w K mg base CX0 3 _ fd_Line___call__ ["self", "n"] (spD ⟨K, (He.ga K "Line")⟩ 2 S_Line___call__) := ok_Line___call__ T F_Line___call__ h_check_whole_1 hp_times hp_plus hp_over
  have h_callO : COk P w K mg base (He.ga K "Line") 3 2 S_Line___call__ := ⟨_, _, _, callB_ok ce7, k_Line___call__, F_Line___call__.bindsN (fun _ _ _ _ _ _ us hl => match us, hl with | [_, _], _ => rfl)⟩
  have k_lowered : FnOk P w K mg base CX0 1 _ fd_lowered ["way"] (spD ⟨K, (He.ga K "Line")⟩ 1 S_lowered) := ok_lowered T F_lowered 
  have h_lowered : CallOk P w K mg base (He.ga K "Line") 1 "lowered" 1 S_lowered [] := call_all G_lowered F_lowered k_lowered (fun _ _ _ _ _ _ us hl => match us, hl with | [_], _ => rfl)
  have k_raised : FnOk P w K mg base CX0 1 _ fd_raised ["value", "place", "fixed", "last", "way"] (spD ⟨K, (He.ga K "Line")⟩ 5 S_raised) := ok_raised T F_raised 
  have h_raised : CallOk P w K mg base (He.ga K "Line") 1 "raised" 5 S_raised [] := call_all G_raised F_raised k_raised (fun _ _ _ _ _ _ us hl => match us, hl with | [_, _, _, _, _], _ => rfl)
  have k_greatest : FnOk P w K mg base CX0 2 _ fd_greatest ["times", "plus", "over", "last", "slope", "weight"] (spD ⟨K, (He.ga K "Line")⟩ 6 S_greatest) := ok_greatest T F_greatest h_lowered h_raised
  have h_greatest : CallOk P w K mg base (He.ga K "Line") 2 "greatest" 6 S_greatest [] := call_all G_greatest F_greatest k_greatest (fun _ _ _ _ _ _ us hl => match us, hl with | [_, _, _, _, _, _], _ => rfl)
  have k_place_of : FnOk P w K mg base CX0 3 _ fd_place_of ["line", "low", "high", "slope", "weight", "late"] (spD ⟨K, (He.ga K "Line")⟩ 6 S_place_of) := ok_place_of T F_place_of hp_times hp_plus h_greatest hp_over
  have h_place_of : CallOk P w K mg base (He.ga K "Line") 3 "place_of" 6 S_place_of [] := call_all G_place_of F_place_of k_place_of (fun _ _ _ _ _ _ us hl => match us, hl with | [_, _, _, _, _, _], _ => rfl)
  have k_low_slope : FnOk P w K mg base CX0 4 _ fd_low_slope ["line", "low", "high"] (spD ⟨K, (He.ga K "Line")⟩ 3 S_low_slope) := ok_low_slope T F_low_slope h_fraction h_callO h_place_of
  have h_low_slope : CallOk P w K mg base (He.ga K "Line") 4 "low_slope" 3 S_low_slope [] := call_all G_low_slope F_low_slope k_low_slope (fun _ _ _ _ _ _ us hl => match us, hl with | [_, _, _], _ => rfl)
  have k_Line___neg__ : FnOk P w K mg base CX0 5 _ fd_Line___neg__ ["self"] (spD ⟨K, (He.ga K "Line")⟩ 1 S_Line___neg__) := ok_Line___neg__ T F_Line___neg__ h_Line hp_over hp_plus hp_times
  have hu___neg__ : UOk P w K mg base (He.ga K "Line") 5 "__neg__" 1 S_Line___neg__ := ⟨_, _, _, (opB_ok ce8).1, (opB_ok ce8).2, k_Line___neg__, F_Line___neg__.bindsN (fun _ _ _ _ _ _ us hl => match us, hl with | [_], _ => rfl)⟩
  have k_slopes : FnOk P w K mg base CX0 6 _ fd_slopes ["line", "low", "high"] (spD ⟨K, (He.ga K "Line")⟩ 3 S_slopes) := ok_slopes T F_slopes h_check_line h_check_range h_low_slope hu___neg__
  have h_slopes : CallOk P w K mg base (He.ga K "Line") 6 "slopes" 3 S_slopes [] := call_all G_slopes F_slopes k_slopes (fun _ _ _ _ _ _ us hl => match us, hl with | [_, _, _], _ => rfl)
  have k_less : FnOk P w K mg base CX0 1 _ fd_less ["one", "other"] (spD ⟨K, (He.ga K "Line")⟩ 2 S_less) := ok_less T F_less 
  have h_less : CallOk P w K mg base (He.ga K "Line") 1 "less" 2 S_less [] := call_all G_less F_less k_less (fun _ _ _ _ _ _ us hl => match us, hl with | [_, _], _ => rfl)
  have k_unfolded : FnOk P w K mg base CX0 1 _ fd_unfolded ["wholes", "found"] (spD ⟨K, (He.ga K "Line")⟩ 2 S_unfolded) := ok_unfolded T F_unfolded 
  have h_unfolded : CallOk P w K mg base (He.ga K "Line") 1 "unfolded" 2 S_unfolded [] := call_all G_unfolded F_unfolded k_unfolded (fun _ _ _ _ _ _ us hl => match us, hl with | [_, _], _ => rfl)
  have k_simple_between : FnOk P w K mg base CX0 2 _ fd_simple_between ["one", "other"] (spD ⟨K, (He.ga K "Line")⟩ 2 S_simple_between) := ok_simple_between T F_simple_between h_less h_unfolded
  have h_simple_between : CallOk P w K mg base (He.ga K "Line") 2 "simple_between" 2 S_simple_between [] := call_all G_simple_between F_simple_between k_simple_between (fun _ _ _ _ _ _ us hl => match us, hl with | [_, _], _ => rfl)
  have k_highest : FnOk P w K mg base CX0 3 _ fd_highest ["line", "low", "high", "slope", "weight"] (spD ⟨K, (He.ga K "Line")⟩ 5 S_highest) := ok_highest T F_highest h_greatest hp_over hp_times hp_plus
  have h_highest : CallOk P w K mg base (He.ga K "Line") 3 "highest" 5 S_highest [] := call_all G_highest F_highest k_highest (fun _ _ _ _ _ _ us hl => match us, hl with | [_, _, _, _, _], _ => rfl)
  have k_simplest : FnOk P w K mg base CX0 7 _ fd_simplest ["line", "low", "high"] (spD ⟨K, (He.ga K "Line")⟩ 3 S_simplest) := ok_simplest T F_simplest h_slopes h_simple_between h_Line h_highest
  have h_simplest : CallOk P w K mg base (He.ga K "Line") 7 "simplest" 3 S_simplest [] := call_all G_simplest F_simplest k_simplest (fun _ _ _ _ _ _ us hl => match us, hl with | [_, _, _], _ => rfl)
  have k_leaning : FnOk P w K mg base CX0 8 _ fd_leaning ["line", "low", "high"] (spD ⟨K, (He.ga K "Line")⟩ 3 S_leaning) := ok_leaning T F_leaning h_simplest h_place_of hp_over hp_times
  have h_leaning : CallOk P w K mg base (He.ga K "Line") 8 "leaning" 3 S_leaning [] := call_all G_leaning F_leaning k_leaning (fun _ _ _ _ _ _ us hl => match us, hl with | [_, _, _], _ => rfl)
  have k_corners : FnOk P w K mg base CX0 9 _ fd_corners ["pieces"] (spD ⟨K, (He.ga K "Line")⟩ 1 S_corners) := ok_corners T F_corners h_leaning h_callO
  have h_corners : CallOk P w K mg base (He.ga K "Line") 9 "corners" 1 S_corners [] := call_all G_corners F_corners k_corners (fun _ _ _ _ _ _ us hl => match us, hl with | [_], _ => rfl)
  have k_bars_of : FnOk P w K mg base CX0 10 _ fd_bars_of ["pieces"] (spD ⟨K, (He.ga K "Line")⟩ 1 S_bars_of) := ok_bars_of T F_bars_of h_corners h_fraction h_less
  have h_bars_of : CallOk P w K mg base (He.ga K "Line") 10 "bars_of" 1 S_bars_of [] := call_all G_bars_of F_bars_of k_bars_of (fun _ _ _ _ _ _ us hl => match us, hl with | [_], _ => rfl)
  have k_pieces_slopes : FnOk P w K mg base CX0 11 _ fd_pieces_slopes ["pieces"] (spD ⟨K, (He.ga K "Line")⟩ 1 S_pieces_slopes) := ok_pieces_slopes T F_pieces_slopes h_check_pieces h_bars_of h_less
  have h_pieces_slopes : CallOk P w K mg base (He.ga K "Line") 11 "pieces_slopes" 1 S_pieces_slopes [] := call_all G_pieces_slopes F_pieces_slopes k_pieces_slopes (fun _ _ _ _ _ _ us hl => match us, hl with | [_], _ => rfl)
  have k_check_base : FnOk P w K mg base CX0 2 _ fd_check_base ["base"] (spD ⟨K, (He.ga K "Line")⟩ 1 S_check_base) := ok_check_base T F_check_base h_is_whole
  have h_check_base : CallOk P w K mg base (He.ga K "Line") 2 "check_base" 1 S_check_base [] := call_all G_check_base F_check_base k_check_base (fun _ _ _ _ _ _ us hl => match us, hl with | [_], _ => rfl)
  have k_inside : FnOk P w K mg base CX0 1 _ fd_inside ["first", "second", "scale"] (spD ⟨K, (He.ga K "Line")⟩ 3 S_inside) := ok_inside T F_inside 
  have h_inside : CallOk P w K mg base (He.ga K "Line") 1 "inside" 3 S_inside [] := call_all G_inside F_inside k_inside (fun _ _ _ _ _ _ us hl => match us, hl with | [_, _, _], _ => rfl)
  have k_power : FnOk P w K mg base CX0 1 _ fd_power ["base", "exponent"] (spD ⟨K, (He.ga K "Line")⟩ 2 S_power) := ok_power T F_power 
  have h_power : CallOk P w K mg base (He.ga K "Line") 1 "power" 2 S_power [] := call_all G_power F_power k_power (fun _ _ _ _ _ _ us hl => match us, hl with | [_, _], _ => rfl)
  have k_pieces_recipe : FnOk P w K mg base CX0 12 _ fd_pieces_recipe ["pieces", "base"] (spD ⟨K, (He.ga K "Line")⟩ 2 S_pieces_recipe) := ok_pieces_recipe T F_pieces_recipe h_pieces_slopes h_check_base h_corners h_inside h_power
  have h_pieces_recipe_1 : CallOk P w K mg base (He.ga K "Line") 12 "pieces_recipe" 2 S_pieces_recipe [.int (2)] := call_kwd _ 1 G_pieces_recipe F_pieces_recipe k_pieces_recipe (by simp [He5.DefA.kws]) rfl rfl (fun _ _ _ _ _ _ us ks hl hk => match us, ks, hl, hk with | [_], [_], _, _ => ⟨_, _, _, _, _, _, rfl, rfl, rfl⟩)
  have k_Library_together : FnR P w K mg base CX0 13 _ (spV ⟨K, (He.ga K "Line")⟩ 13 S_Library_together) := ok_Library_together T F_Library_together hmo_Library_check_kept_1 h_pieces_recipe_1 oc_Library
  have hmv_Library_together : MVOk P w K mg base (He.ga K "Line") 13 "Library" "together" 13 S_Library_together := ⟨_, oc_Library, He.meth_ok (c.fact 98 (f := .meth "Library" "together") rfl), by decide +kernel, k_Library_together⟩
  have k__law_together_right : FnOk P w K mg base CX0 14 _ fd__law_together_right ["_law_library", "_law_kept", "_law_names_here"] (spD ⟨K, (He.ga K "Line")⟩ 3 S__law_together_right) := ok__law_together_right T F__law_together_right hmv_Library_together h_pieces_recipe_1
  have h__law_together_right : CallOk P w K mg base (He.ga K "Line") 14 "_law_together_right" 3 S__law_together_right [] := call_all G__law_together_right F__law_together_right k__law_together_right (fun _ _ _ _ _ _ us hl => match us, hl with | [_, _, _], _ => rfl)
  have k__law_purse : FnOk P w K mg base CX0 1 _ fd__law_purse ["_law_script", "_law_at"] (spD ⟨K, (He.ga K "Line")⟩ 2 S__law_purse) := ok__law_purse T F__law_purse 
  have h__law_purse : CallOk P w K mg base (He.ga K "Line") 1 "_law_purse" 2 S__law_purse [] := call_all G__law_purse F__law_purse k__law_purse (fun _ _ _ _ _ _ us hl => match us, hl with | [_, _], _ => rfl)
  have k__law_names : FnOk P w K mg base CX0 3 _ fd__law_names ["_law_purse_here"] (spD ⟨K, (He.ga K "Line")⟩ 1 S__law_names) := ok__law_names T F__law_names h__law_draw
  have h__law_names : CallOk P w K mg base (He.ga K "Line") 3 "_law_names" 1 S__law_names [] := call_all G__law_names F__law_names k__law_names (fun _ _ _ _ _ _ us hl => match us, hl with | [_], _ => rfl)
  have k_Library___init__ : FnOk P w K mg base CX0 1 _ fd_Library___init__ ["self"] (spD ⟨K, (He.ga K "Line")⟩ 1 S_Library___init__) := ok_Library___init__ T F_Library___init__ oc_Library
  have hmk_Library : MkO P w K mg base (He.ga K "Line") 1 "Library" 1 S_Library___init__ := mko_of oc_Library G_Library ⟨_, He.mkr_ok (c.fact 86 (f := .mkr "Library") rfl), rfl⟩ F_Library___init__ k_Library___init__ (fun _ _ _ _ _ _ us hl => match us, hl with | [_], _ => rfl)
  have k_Library_copy : FnOk P w K mg base CX0 3 _ fd_Library_copy ["self"] (spD ⟨K, (He.ga K "Line")⟩ 1 S_Library_copy) := ok_Library_copy T F_Library_copy hmk_Library oc_Library
  have hmo_Library_copy_0 : MOkO P w K mg base (He.ga K "Line") 3 "Library" "copy" 1 S_Library_copy [] := metho_all oc_Library (He.meth_ok (c.fact 90 (f := .meth "Library" "copy") rfl)) (by decide +kernel) F_Library_copy k_Library_copy (fun _ _ _ _ _ _ us hl => match us, hl with | [_], _ => rfl)
  have k_Library_back : FnOk P w K mg base CX0 2 _ fd_Library_back ["self"] (spD ⟨K, (He.ga K "Line")⟩ 1 S_Library_back) := ok_Library_back T F_Library_back oc_Library hmo_Library_set_entry_2
  have hmo_Library_back_0 : MOkO P w K mg base (He.ga K "Line") 2 "Library" "back" 1 S_Library_back [] := metho_all oc_Library (He.meth_ok (c.fact 87 (f := .meth "Library" "back") rfl)) (by decide +kernel) F_Library_back k_Library_back (fun _ _ _ _ _ _ us hl => match us, hl with | [_], _ => rfl)
  have kx_Library_back : FnOk P w K mg base (CXp P w) 2 _ fd_Library_back ["self"] (spU ⟨K, (He.ga K "Line")⟩ 1 S_Library_back Sx_Library_back) := fn_both k_Library_back (okx_Library_back T F_Library_back oc_Library he0_NothingToUndo)
  have hmox_Library_back_0 : MOkOX P w K mg base (He.ga K "Line") 2 "Library" "back" 1 S_Library_back Sx_Library_back := ⟨_, _, _, oc_Library, He.meth_ok (c.fact 87 (f := .meth "Library" "back") rfl), by decide +kernel, kx_Library_back, F_Library_back.bindsN (fun _ _ _ _ _ _ us hl => match us, hl with | [_], _ => rfl)⟩
  have k_law : FnOk P w K mg base CX0 15 _ fd_law ["_law_script"] (spD ⟨K, (He.ga K "Line")⟩ 1 S_law) := ok_law T F_law h__law_purse h__law_names hmk_Library h__law_put h__law_entry h__law_step h__law_together_right h__law_shows hmo_Library_copy_0 hmo_Library_back_0 huo___contains__ h__law_entry_right hmo_Library_entry_1 he0_NothingToUndo hmox_Library_back_0
  exact k_law
end K96
open PySem PySem.W PySem.Calls PyProof.Rows
set_option maxRecDepth 100000 in
set_option maxHeartbeats 0 in
theorem PySem.Challenge.cw_fourtests_k96_whole_full_libraries_holds : PySem.Challenge.rw_fourtests_k96_whole_full_libraries.Holds := by
  w_on; o_law
  refine HandSHeadRun.head_any (r := OpenLaw.row PySem.Challenge.rw_fourtests_k96_whole_full_libraries) (q := view (OpenLaw.row PySem.Challenge.rw_fourtests_k96_whole_full_libraries).prog [63]) (H := K96.hk) (ob := K96.ob) (M := 20000) (loose := K96.names) (d := HandSHeadRun.topDef (OpenLaw.row PySem.Challenge.rw_fourtests_k96_whole_full_libraries).prog 63) (kwd := []) K96.ob_eq
    (by kernel_rfl) (fun s => by kernel_rfl) K96.run (by kernel_rfl) (by kernel_rfl) (by kernel_rfl) (by rfl) (by first | assumption | decide +kernel) (by decide +kernel) ⟨rfl, rfl, rfl, rfl, rfl, by decide +kernel⟩ ?hw ?hc
  case hw => w_witness2
  case hc =>
    refine L2.walk_ofE (l := PySem.Challenge.rw_fourtests_k96_whole_full_libraries) (n := 63) (k := 15) (x := "_law_script") (CX := L2.CX0) rfl (by decide) (by kernel_rfl) ⟨rfl, by decide, by decide⟩ ?F (fun _ _ _ _ z => z)
    intro w mg fa h Y G hmg0
    obtain ⟨K, KX, c⟩ := Y
    have hmg : mg ("law" : PySem.Str) = some (.ref fa) := by
      have e : (HandSHeadRun.topDef (OpenLaw.row PySem.Challenge.rw_fourtests_k96_whole_full_libraries).prog 63).name = ("law" : PySem.Str) := by kernel_rfl
      rw [← e]
      exact hmg0
    obtain ⟨fd, hb, hF⟩ := K96.facts (P := (PySem.Challenge.rw_fourtests_k96_whole_full_libraries).prog) (w := w) KX G hmg (by rfl) (by first | rfl | decide +kernel | kernel_rfl) c
    exact ⟨K, fd, Dl.spD ⟨K, (He.ga K "Line")⟩ 1 K96.S_law, KX, hb, fun H a ns hl ho hS => Dl.law_start K96.law_true H a ns hl ho hS, hF⟩

