import PyProof.Rows.All
import Wide.All
import OpenK.AllK
import Wide.FinOn
import HandS.ForMost
import HandS.ForExc
import HandS.Wide
import HandS.IsInst
import HandS.Zip
import HandS.TupAny
import HandS.TupMul
import HandS.TupLe
import HandS.Defaults
import HandS.Style
import HandS.Deep
import HandS.Conv
import HandS.More
import HandS.ExcOwn
import HandS.HeadHook1
import HandS.HeadHook4
import HandS.Lambda
import HandS.Walk
import KE.GoesMore
import KE.GoesEnum
import HandS.TryOnly
import HandS.Set
import HandS.SetFor
import HandS.Strs
import HandS.Dict
import KE.DataCmp
import KE.KDictList
import KE.KDictZip
import HandS.DictTup
import HandS.ExcIs
import KE.KStateDown
import HandS.Head0
import HandS.Head1
import HandS.Head2
import HandS.HeadEnd
import HandS.HeadHook2
import HandS.SortInts
import KE.IntBitsLaws
import HandS.Comp
import HandS.Iter
import HandS.Text
import PySem.Challenge.RW_blendstands_k60_whole_texts
set_option Elab.async false
set_option linter.all false
set_option maxRecDepth 100000
set_option maxHeartbeats 4000000
section
namespace PL
open PySem PySem.Spec PyProof.Rows L2
abbrev St := L2.St
inductive D where
  | non | bl (b : Bool) | int (i : Int) | str (s : Str)
  | tup (ds : List D) | lst (ds : List D)
  | dic (kvs : List (Key × D))
  | own (i : Nat)
  | scr (ns : List Int)
  | tpn (ds : List D)
  | exc (c : Str)
  | fn (x : Str)
  | obj (k : Nat)
  | tpo (ds : List D)
inductive R (α : Type) where
  | ok (a : α) | err (c : Str) | stuck
def R.bnd {α β : Type} (x : R α) (f : α → R β) : R β := match x with
  | .ok a => f a
  | .err c => .err c
  | .stuck => .stuck
@[simp] theorem bnd_ok {α β : Type} (a : α) (f : α → R β) : (R.ok a).bnd f = f a := rfl
@[simp] theorem bnd_err {α β : Type} (c : Str) (f : α → R β) : (R.err c : R α).bnd f = .err c := rfl
@[simp] theorem bnd_stuck {α β : Type} (f : α → R β) : (R.stuck : R α).bnd f = .stuck := rfl
inductive Ob where
  | ins (c : Str) (fs : List (Str × D)) | ls (ds : List D) | tab (x q : Str)
inductive Sl where
  | un | im (d : D) | ol (ds : List D) | od (kvs : List (Key × D)) | st (w : Bool) (os : List Ob)
abbrev Rho := List Sl
def ExcO (cls : Value) (a : Addr) : HO := .ext fun h => ∃ (oe : Obj) (vs : Array Value), h.get? a = some oe ∧ Zc cls none oe ∧ oe.data = .fields vs
def mrk (k : Nat) : HO := .met k 0
def isMk : HO → Bool
  | .met _ 0 => true
  | _ => false
theorem isMk_mrk {o : HO} (h : isMk o = true) : ∃ k, o = mrk k := by
  cases o with
  | met f x =>
    cases x with
    | zero => exact ⟨f, rfl⟩
    | succ x => cases h
  | _ => cases h
class UnM (o : HO) : Prop where
  h : isMk o = false
instance (xs : List V) : UnM (.tup xs) := ⟨rfl⟩
instance (xs : List V) : UnM (.lst xs) := ⟨rfl⟩
instance (xs : List (Key × V)) : UnM (.dK xs) := ⟨rfl⟩
instance (xs : List (List Key × V)) : UnM (.dT xs) := ⟨rfl⟩
instance (φ : Heap → Prop) : UnM (.ext φ) := ⟨rfl⟩
instance (o : Obj) (u : HO) : UnM (.frz o u) := ⟨rfl⟩
instance (C d : Addr) (fs : List (Str × V)) : UnM (.ins C d fs) := ⟨rfl⟩
instance (c : Value) (a : Addr) : UnM (ExcO c a) := ⟨rfl⟩
def um (G : Hp) : Hp := fun a => match G a with
  | some o => if isMk o then none else some o
  | none => none
mutual
inductive Rp (K : PySem.W.Frag) (G : Hp) : V → D → Prop
  | non : Rp K G .non .non
  | bl (b : Bool) : Rp K G (.bl b) (.bl b)
  | int (i : Int) : Rp K G (.int i) (.int i)
  | str (x : Str) : Rp K G (.str x) (.str x)
  | tup {a : Addr} {xs : List V} {ds : List D} : SqT K G a xs → RpA K G xs ds → Rp K G (.ref a) (.tup ds)
  | lst {a : Addr} {xs : List V} {ds : List D} : G a = some (.lst xs) → RpA K G xs ds → Rp K G (.ref a) (.lst ds)
  | scr {a : Addr} {ns : List Int} : SqL K G a (ns.map V.int) → Rp K G (.ref a) (.scr ns)
  | tpn {a : Addr} {o : Obj} {xs : List V} {ds : List D} : G a = some (.frz o (.tup xs)) → o.dict = none → RpA K G xs ds → Rp K G (.ref a) (.tpn ds)
  | dic {a : Addr} {o : Obj} {kvs : List (Key × V)} {ds : List (Key × D)} : G a = some (.frz o (.dK kvs)) → RpK K G kvs ds → Rp K G (.ref a) (.dic ds)
  | exc {a : Addr} {c : Str} : G a = some (ExcO (.ref (He.ga K c)) a) → Rp K G (.ref a) (.exc c)
  | fn {x : Str} : Rp K G (.ref (He.ga K x)) (.fn x)
inductive RpA (K : PySem.W.Frag) (G : Hp) : List V → List D → Prop
  | nil : RpA K G [] []
  | cons {v : V} {vs : List V} {d : D} {ds : List D} : Rp K G v d → RpA K G vs ds → RpA K G (v :: vs) (d :: ds)
inductive RpK (K : PySem.W.Frag) (G : Hp) : List (Key × V) → List (Key × D) → Prop
  | nil : RpK K G [] []
  | cons {k : Key} {v : V} {vs : List (Key × V)} {d : D} {ds : List (Key × D)} : Rp K G v d → RpK K G vs ds → RpK K G ((k, v) :: vs) ((k, d) :: ds)
end
abbrev Ex (H H' : Hp) : Prop := Same H H'
theorem ex_t {K : PySem.W.Frag} {H H' : Hp} {a : Addr} {xs : List V} (e : Ex H H') (h : SqT K H a xs) : SqT K H' a xs := by
  rcases h with (h | ⟨o, h⟩) | h
  · exact .inl (.inl (e _ _ h))
  · exact .inl (.inr ⟨o, e _ _ h⟩)
  · exact .inr h
mutual
theorem Rp.mono {K : PySem.W.Frag} {G G' : Hp} (e : Ex G G') : ∀ {v : V} {d : D}, Rp K G v d → Rp K G' v d
  | _, _, .non => .non
  | _, _, .bl b => .bl b
  | _, _, .int i => .int i
  | _, _, .str x => .str x
  | _, _, .tup h r => .tup (ex_t e h) (RpA.mono e r)
  | _, _, .lst h r => .lst (e _ _ h) (RpA.mono e r)
  | _, _, .tpn h h2 r => .tpn (e _ _ h) h2 (RpA.mono e r)
  | _, _, .scr h => .scr (Same.seq e h)
  | _, _, .dic h r => .dic (e _ _ h) (RpK.mono e r)
  | _, _, .exc h => .exc (e _ _ h)
  | _, _, .fn => .fn
theorem RpA.mono {K : PySem.W.Frag} {G G' : Hp} (e : Ex G G') : ∀ {v : List V} {d : List D}, RpA K G v d → RpA K G' v d
  | _, _, .nil => .nil
  | _, _, .cons h r => .cons (Rp.mono e h) (RpA.mono e r)
theorem RpK.mono {K : PySem.W.Frag} {G G' : Hp} (e : Ex G G') : ∀ {v : List (Key × V)} {d : List (Key × D)}, RpK K G v d → RpK K G' v d
  | _, _, .nil => .nil
  | _, _, .cons h r => .cons (Rp.mono e h) (RpK.mono e r)
end
mutual
inductive RpO (K : PySem.W.Frag) (G : Hp) : V → D → Prop
  | pure {v : V} {d : D} : Rp K G v d → RpO K G v d
  | obj {a : Addr} {k : Nat} : G a = some (mrk k) → RpO K G (.ref a) (.obj k)
  | tpo {a : Addr} {xs : List V} {ds : List D} : SqT K G a xs → RpOA K G xs ds → RpO K G (.ref a) (.tpo ds)
inductive RpOA (K : PySem.W.Frag) (G : Hp) : List V → List D → Prop
  | nil : RpOA K G [] []
  | cons {v : V} {vs : List V} {d : D} {ds : List D} : RpO K G v d → RpOA K G vs ds → RpOA K G (v :: vs) (d :: ds)
end
mutual
theorem RpO.mono {K : PySem.W.Frag} {G G' : Hp} (e : Ex G G') : ∀ {v : V} {d : D}, RpO K G v d → RpO K G' v d
  | _, _, .pure h => .pure (h.mono e)
  | _, _, .obj h => .obj (e _ _ h)
  | _, _, .tpo h r => .tpo (ex_t e h) (RpOA.mono e r)
theorem RpOA.mono {K : PySem.W.Frag} {G G' : Hp} (e : Ex G G') : ∀ {v : List V} {d : List D}, RpOA K G v d → RpOA K G' v d
  | _, _, .nil => .nil
  | _, _, .cons h r => .cons (RpO.mono e h) (RpOA.mono e r)
end
theorem RpA.o {K : PySem.W.Frag} {G : Hp} : ∀ {v : List V} {d : List D}, RpA K G v d → RpOA K G v d
  | _, _, .nil => .nil
  | _, _, .cons h r => .cons (.pure h) (RpA.o r)
theorem RpOA.length {K : PySem.W.Frag} {G : Hp} : ∀ {v : List V} {d : List D}, RpOA K G v d → v.length = d.length
  | _, _, .nil => rfl
  | _, _, .cons _ r => by rw [List.length_cons, List.length_cons, RpOA.length r]
theorem RpOA.get {K : PySem.W.Frag} {G : Hp} : ∀ {v : List V} {ds : List D} {i : Nat} {d : D}, RpOA K G v ds → ds[i]? = some d → ∃ x, v[i]? = some x ∧ RpO K G x d
  | _, _, _, _, .nil, e => by simp at e
  | _, _, 0, _, .cons h _, e => by simp at e; subst e; exact ⟨_, rfl, h⟩
  | _, _, i + 1, d, .cons _ t, e => by
    obtain ⟨u, h1, h2⟩ := RpOA.get (i := i) (d := d) t (by simpa using e)
    exact ⟨u, by simpa using h1, h2⟩
theorem RpOA.getV {K : PySem.W.Frag} {G : Hp} : ∀ {v : List V} {ds : List D} {i : Nat} {x : V}, RpOA K G v ds → v[i]? = some x → ∃ d, ds[i]? = some d ∧ RpO K G x d
  | _, _, _, _, .nil, e => by simp at e
  | _, _, 0, _, .cons h _, e => by simp at e; subst e; exact ⟨_, rfl, h⟩
  | _, _, i + 1, d, .cons _ t, e => by
    obtain ⟨u, h1, h2⟩ := RpOA.getV (i := i) t (by simpa using e)
    exact ⟨u, by simpa using h1, h2⟩
inductive RpF (K : PySem.W.Frag) (G : Hp) : List (Str × V) → List (Str × D) → Prop
  | nil : RpF K G [] []
  | cons {fvs : List (Str × V)} {f : Str} {v : V} {d : D} {ds : List (Str × D)} : RpO K G v d → RpF K G fvs ds → RpF K G ((f, v) :: fvs) ((f, d) :: ds)
theorem RpF.mono {K : PySem.W.Frag} {G G' : Hp} (e : Ex G G') : ∀ {v : List (Str × V)} {d : List (Str × D)}, RpF K G v d → RpF K G' v d
  | _, _, .nil => .nil
  | _, _, .cons h r => .cons (RpO.mono e h) (RpF.mono e r)
theorem RpA.length {K : PySem.W.Frag} {G : Hp} : ∀ {v : List V} {d : List D}, RpA K G v d → v.length = d.length
  | _, _, .nil => rfl
  | _, _, .cons _ r => by rw [List.length_cons, List.length_cons, RpA.length r]
theorem RpA.get {K : PySem.W.Frag} {G : Hp} : ∀ {v : List V} {ds : List D} {i : Nat} {d : D}, RpA K G v ds → ds[i]? = some d → ∃ x, v[i]? = some x ∧ Rp K G x d
  | _, _, _, _, .nil, e => by simp at e
  | _, _, 0, _, .cons h _, e => by simp at e; subst e; exact ⟨_, rfl, h⟩
  | _, _, i + 1, d, .cons _ t, e => by
    obtain ⟨u, h1, h2⟩ := RpA.get (i := i) (d := d) t (by simpa using e)
    exact ⟨u, by simpa using h1, h2⟩
theorem RpA.getV {K : PySem.W.Frag} {G : Hp} : ∀ {v : List V} {ds : List D} {i : Nat} {x : V}, RpA K G v ds → v[i]? = some x → ∃ d, ds[i]? = some d ∧ Rp K G x d
  | _, _, _, _, .nil, e => by simp at e
  | _, _, 0, _, .cons h _, e => by simp at e; subst e; exact ⟨_, rfl, h⟩
  | _, _, i + 1, d, .cons _ t, e => by
    obtain ⟨u, h1, h2⟩ := RpA.getV (i := i) t (by simpa using e)
    exact ⟨u, by simpa using h1, h2⟩
theorem RpA.append {K : PySem.W.Frag} {G : Hp} : ∀ {v w : List V} {d e : List D}, RpA K G v d → RpA K G w e → RpA K G (v ++ w) (d ++ e)
  | _, _, _, _, .nil, s => s
  | _, _, _, _, .cons r t, s => .cons r (RpA.append t s)
theorem RpA.take {K : PySem.W.Frag} {G : Hp} : ∀ {v : List V} {d : List D} (n : Nat), RpA K G v d → RpA K G (v.take n) (d.take n)
  | _, _, 0, _ => .nil
  | _, _, _ + 1, .nil => .nil
  | _, _, n + 1, .cons r t => .cons r (RpA.take n t)
theorem RpA.drop {K : PySem.W.Frag} {G : Hp} : ∀ {v : List V} {d : List D} (n : Nat), RpA K G v d → RpA K G (v.drop n) (d.drop n)
  | _, _, 0, r => r
  | _, _, _ + 1, .nil => .nil
  | _, _, n + 1, .cons _ t => RpA.drop n t
theorem RpA.set {K : PySem.W.Frag} {G : Hp} {x : V} {d : D} (r : Rp K G x d) : ∀ {xs : List V} {us : List D} (i : Nat), RpA K G xs us → RpA K G (xs.set i x) (us.set i d)
  | _, _, _, .nil => .nil
  | _, _, 0, .cons _ t => .cons r t
  | _, _, i + 1, .cons q t => .cons q (RpA.set r i t)
theorem RpA.snoc {K : PySem.W.Frag} {G : Hp} {v : List V} {d : List D} {x : V} {y : D} (h : RpA K G v d) (r : Rp K G x y) : RpA K G (v ++ [x]) (d ++ [y]) := h.append (.cons r .nil)
theorem RpA.replicate {K : PySem.W.Frag} {G : Hp} {v : List V} {d : List D} (h : RpA K G v d) : ∀ n, RpA K G (List.replicate n v).flatten (List.replicate n d).flatten
  | 0 => .nil
  | n + 1 => by
    rw [List.replicate_succ, List.replicate_succ, List.flatten_cons, List.flatten_cons]
    exact h.append (RpA.replicate h n)
theorem RpA.ints {K : PySem.W.Frag} {G : Hp} : ∀ (ns : List Int), RpA K G (ns.map V.int) (ns.map D.int)
  | [] => .nil
  | n :: ns => .cons (.int n) (RpA.ints ns)
theorem um_of {G : Hp} {a : Addr} {o : HO} (h : G a = some o) (m : isMk o = false) : um G a = some o := by
  unfold um
  rw [h]
  simp [m]
theorem um_is {G : Hp} {a : Addr} {o : HO} (h : um G a = some o) : G a = some o ∧ isMk o = false := by
  unfold um at h
  cases e : G a with
  | none => rw [e] at h; cases h
  | some u =>
    rw [e] at h
    cases m : isMk u with
    | true => simp [m] at h
    | false =>
      simp [m] at h
      subst h
      exact ⟨rfl, m⟩
theorem um_none {G : Hp} {a : Addr} (h : G a = none) : um G a = none := by
  unfold um
  rw [h]
theorem um_ex {G G' : Hp} (e : Ex G G') : Ex (um G) (um G') := fun a o h => um_of (e _ _ (um_is h).1) (um_is h).2
theorem um_upd {G : Hp} {p : Addr} {o : HO} (m : isMk o = false) : um (upd G p o) = upd (um G) p o := by
  funext a
  by_cases z : a = p
  · subst z
    rw [upd_same]
    exact um_of upd_same m
  · rw [upd_ne z]
    unfold um
    rw [upd_ne z]
theorem um_t {K : PySem.W.Frag} {G : Hp} {a : Addr} {xs : List V} (h : SqT K G a xs) : SqT K (um G) a xs := by
  rcases h with (h | ⟨o, h⟩) | h
  · exact .inl (.inl (um_of h rfl))
  · exact .inl (.inr ⟨o, um_of h rfl⟩)
  · exact .inr h
theorem um_l {K : PySem.W.Frag} {G : Hp} {a : Addr} {xs : List V} (h : SqL K G a xs) : SqL K (um G) a xs := by
  rcases h with (h | ⟨o, h⟩) | h
  · exact .inl (.inl (um_of h rfl))
  · exact .inl (.inr ⟨o, um_of h rfl⟩)
  · exact .inr h
theorem ex_new {H : Hp} {p : Addr} {o : HO} (h : H p = none) : Ex H (upd H p o) := fun a u e => by
  rw [upd_ne (ne_of_none e h)]
  exact e
theorem ex_upd {G H : Hp} {p : Addr} {o : HO} (e : Ex G H) : Ex (upd G p o) (upd H p o) := fun a u h => by
  by_cases q : a = p
  · subst q
    rw [upd_same] at h ⊢
    exact h
  · rw [upd_ne q] at h ⊢
    exact e _ _ h
theorem ex_into {G H : Hp} {p : Addr} {o : HO} (e : Ex G H) (h : G p = none) : Ex G (upd H p o) := fun a u q => by
  rw [upd_ne (ne_of_none q h)]
  exact e _ _ q
mutual
theorem Rp.um {K : PySem.W.Frag} {G : Hp} : ∀ {v : V} {d : D}, Rp K G v d → Rp K (um G) v d
  | _, _, .non => .non
  | _, _, .bl b => .bl b
  | _, _, .int i => .int i
  | _, _, .str x => .str x
  | _, _, .tup h r => .tup (um_t h) (RpA.um r)
  | _, _, .lst h r => .lst (um_of h rfl) (RpA.um r)
  | _, _, .tpn h h2 r => .tpn (um_of h rfl) h2 (RpA.um r)
  | _, _, .scr h => .scr (um_l h)
  | _, _, .dic h r => .dic (um_of h rfl) (RpK.um r)
  | _, _, .exc h => .exc (um_of h rfl)
  | _, _, .fn => .fn
theorem RpA.um {K : PySem.W.Frag} {G : Hp} : ∀ {v : List V} {d : List D}, RpA K G v d → RpA K (um G) v d
  | _, _, .nil => .nil
  | _, _, .cons h r => .cons (Rp.um h) (RpA.um r)
theorem RpK.um {K : PySem.W.Frag} {G : Hp} : ∀ {v : List (Key × V)} {d : List (Key × D)}, RpK K G v d → RpK K (um G) v d
  | _, _, .nil => .nil
  | _, _, .cons h r => .cons (Rp.um h) (RpK.um r)
end
def ObOk (K : PySem.W.Frag) (G H : Hp) (a : Addr) : Ob → Prop
  | .ins c fs => ∃ dx fvs, H a = some (.ins (He.ga K c) dx fvs) ∧ RpF K G fvs fs ∧ fvs.length < 1000
  | .ls ds => ∃ xs, H a = some (.lst xs) ∧ RpA K G xs ds
  | .tab x q => a = (He.cT K (x, none)).2 ∧ ∃ ps : Array Value, H a = some (.tbl ps) ∧ TriplesOk ps.toList ∧ ∀ (pos : Pos) (cv : Value), codeAmong pos ps.toList = some cv → ∃ c, cv = .ref c ∧ G c = some (LamX.CodeO c q)
structure StOk (K : PySem.W.Frag) (H0 G H : Hp) (w : Bool) (os : List Ob) : Prop where
  at_ : ∀ k ob, os[k]? = some ob → ∃ a, G a = some (mrk k) ∧ ObOk K G H a ob
  un : ∀ a b k, G a = some (mrk k) → G b = some (mrk k) → a = b
  lt : ∀ a k, G a = some (mrk k) → k < os.length
  ch : ∀ a k, G a = some (mrk k) → w = true → H0 a = none
def SlOk (K : PySem.W.Frag) (H0 G H : Hp) : Sl → Option V → Prop
  | .un, _ => True
  | .im d, o => ∃ v, o = some v ∧ RpO K G v d
  | .ol ds, o => ∃ a xs, o = some (.ref a) ∧ H a = some (.lst xs) ∧ G a = none ∧ H0 a = none ∧ RpA K G xs ds
  | .od ks, o => ∃ a kvs, o = some (.ref a) ∧ H a = some (.dK kvs) ∧ G a = none ∧ H0 a = none ∧ RpK K G kvs ks
  | .st w os, _ => StOk K H0 G H w os
def isOwn : Option Sl → Prop
  | some (.ol _) => True
  | some (.od _) => True
  | _ => False
def OwnAt (r : Rho) (s : St) (i : Nat) (a : Addr) : Prop := isOwn r[i]? ∧ s[i]? = some (some (.ref a))
def isSt : Sl → Prop
  | .st _ _ => True
  | _ => False
structure LenOk (r : Rho) (s : St) : Prop where
  lo : s.length ≤ r.length
  hi : r.length ≤ s.length + 1
  st : ∀ i x, r[i]? = some x → (isSt x ↔ s.length ≤ i)
structure Rel (K : PySem.W.Frag) (G0 H0 : Hp) (r : Rho) (s : St) (G H : Hp) : Prop where
  gg : Ex G0 G
  hh : Ex H0 H
  gh : Ex (um G) H
  gf : ∀ a, H a = none → G a = none
  nw : ∀ a o, G a = some o → G0 a = none → H0 a = none
  sl : ∀ (i : Nat) (x : Sl), r[i]? = some x → SlOk K H0 G H x (s[i]?.join)
  ds : ∀ (i j : Nat) (a : Addr), OwnAt r s i a → OwnAt r s j a → i = j
  ln : LenOk r s
section
variable {K : PySem.W.Frag} {G0 H0 G H G' H' : Hp} {r : Rho} {s : St}
theorem Rel.at (R : Rel K G0 H0 r s G H) {a : Addr} {o : HO} (h : G a = some o) (m : isMk o = false) : H a = some o := R.gh _ _ (um_of h m)
theorem Rel.sqt (R : Rel K G0 H0 r s G H) {a : Addr} {xs : List V} (h : SqT K G a xs) : SqT K H a xs := ex_t R.gh (um_t h)
theorem Rel.sql (R : Rel K G0 H0 r s G H) {a : Addr} {xs : List V} (h : SqL K G a xs) : SqL K H a xs := by
  rcases h with (h | ⟨o, h⟩) | h
  · exact .inl (.inl (R.at h rfl))
  · exact .inl (.inr ⟨o, R.at h rfl⟩)
  · exact .inr h
theorem LenOk.own {r : Rho} {s : St} (h : LenOk r s) {i : Nat} {x : Sl} (e : r[i]? = some x) (n : ¬ isSt x) : i < s.length := by
  apply Classical.byContradiction
  intro q
  exact n ((h.st i x e).mpr (by omega))
theorem LenOk.setr {r : Rho} {s : St} (h : LenOk r s) {i : Nat} (hi : i < s.length) (x : Sl) (hx : ¬ isSt x := by exact fun z => z) : LenOk (r.set i x) s := by
  refine ⟨by rw [List.length_set]; exact h.lo, by rw [List.length_set]; exact h.hi, fun j y e => ?_⟩
  by_cases z : i = j
  · subst z
    rw [List.getElem?_set_self (Nat.lt_of_lt_of_le hi h.lo)] at e
    cases e
    exact ⟨fun q => absurd q hx, fun q => by omega⟩
  · rw [List.getElem?_set_ne z] at e
    exact h.st j y e
theorem LenOk.set {r : Rho} {s : St} (h : LenOk r s) {i : Nat} (hi : i < s.length) (x : Sl) (o : Option V) (hx : ¬ isSt x := by exact fun z => z) : LenOk (r.set i x) (s.set i o) := by
  have q := h.setr hi x hx
  exact ⟨by rw [List.length_set (as := s)]; exact q.lo, by rw [List.length_set (as := s)]; exact q.hi, fun j y e => by rw [List.length_set]; exact q.st j y e⟩
theorem ObOk.mono {a : Addr} {ob : Ob} (eg : Ex G G') (eh : Ex H H') (h : ObOk K G H a ob) : ObOk K G' H' a ob := by
  cases ob with
  | ins c fs =>
    obtain ⟨dx, fvs, e1, e2, e3⟩ := h
    exact ⟨dx, fvs, eh _ _ e1, e2.mono eg, e3⟩
  | ls ds =>
    obtain ⟨xs, e1, e2⟩ := h
    exact ⟨xs, eh _ _ e1, e2.mono eg⟩
  | tab x q =>
    obtain ⟨e0, ps, e1, e2, e3⟩ := h
    refine ⟨e0, ps, eh _ _ e1, e2, fun pos cv hc => ?_⟩
    obtain ⟨c, q1, q2⟩ := e3 pos cv hc
    exact ⟨c, q1, eg _ _ q2⟩
theorem StOk.mono {w : Bool} {os : List Ob} (eg : Ex G G') (eh : Ex H H') (nm : ∀ a k, G' a = some (mrk k) → G a = some (mrk k)) (h : StOk K H0 G H w os) : StOk K H0 G' H' w os :=
  ⟨fun k ob e => by
    obtain ⟨a, e1, e2⟩ := h.at_ k ob e
    exact ⟨a, eg _ _ e1, e2.mono eg eh⟩, fun a b k ha hb => h.un a b k (nm a k ha) (nm b k hb), fun a k ha => h.lt a k (nm a k ha), fun a k ha => h.ch a k (nm a k ha)⟩
theorem StOk.off {w : Bool} {os : List Ob} {p : Addr} {o : HO} (hg : G p = none) (h : StOk K H0 G H w os) : StOk K H0 G (upd H p o) w os :=
  ⟨fun k ob e => by
    obtain ⟨a, e1, e2⟩ := h.at_ k ob e
    have na : a ≠ p := fun z => by rw [z, hg] at e1; cases e1
    refine ⟨a, e1, ?_⟩
    cases ob with
    | ins c fs =>
      obtain ⟨dx, fvs, q1, q2⟩ := e2
      exact ⟨dx, fvs, by rw [upd_ne na]; exact q1, q2⟩
    | ls ds =>
      obtain ⟨xs, q1, q2⟩ := e2
      exact ⟨xs, by rw [upd_ne na]; exact q1, q2⟩
    | tab x q =>
      obtain ⟨q0, ps, q1, q2⟩ := e2
      exact ⟨q0, ps, by rw [upd_ne na]; exact q1, q2⟩, h.un, h.lt, h.ch⟩
theorem own_in (R : Rel K G0 H0 r s G H) {i : Nat} {a : Addr} (h : OwnAt r s i a) : (∃ o, H a = some o) ∧ G a = none ∧ H0 a = none := by
  obtain ⟨h1, h2⟩ := h
  cases e : r[i]? with
  | none => rw [e] at h1; exact h1.elim
  | some x =>
    have q := R.sl i x e
    rw [h2] at q
    rw [e] at h1
    cases x with
    | un => exact h1.elim
    | im d => exact h1.elim
    | st w os => exact h1.elim
    | ol ds =>
      obtain ⟨b, xs, e1, e2, e3, e4, _⟩ := q
      have e5 : V.ref a = V.ref b := Option.some.inj e1
      cases e5
      exact ⟨⟨_, e2⟩, e3, e4⟩
    | od ds =>
      obtain ⟨b, xs, e1, e2, e3, e4, _⟩ := q
      have e5 : V.ref a = V.ref b := Option.some.inj e1
      cases e5
      exact ⟨⟨_, e2⟩, e3, e4⟩
structure Nw (G G' H : Hp) : Prop where
  st : ∀ a o, G' a = some o → G a = none → H a = none
  old : ∀ a o, G' a = some o → isMk o = true → G a = some o
theorem Nw.marks {G G' H : Hp} (n : Nw G G' H) : ∀ a k, G' a = some (mrk k) → G a = some (mrk k) := fun a k h => n.old a _ h rfl
theorem Rel.step (R : Rel K G0 H0 r s G H) (eg : Ex G G') (eh : Ex H H') (gh : Ex (um G') H') (nw : Nw G G' H) : Rel K G0 H0 r s G' H' where
  gg := R.gg.trans eg
  hh := R.hh.trans eh
  gh := gh
  gf := fun a h => by
    cases e : G' a with
    | none => rfl
    | some o =>
      cases m : isMk o with
      | false =>
        have z := gh _ _ (um_of e m)
        rw [h] at z
        cases z
      | true =>
        have z := R.gf a (eh.free h)
        rw [nw.old a o e m] at z
        cases z
  nw := fun a o h h0 => by
    cases e : G a with
    | some u => exact R.nw a u e h0
    | none => exact R.hh.free (nw.st a o h e)
  sl := fun i x hx => by
    have key : ∀ a o, H a = some o → G a = none → G' a = none := fun a o h1 h2 => by
      cases e : G' a with
      | none => rfl
      | some u =>
        have z := nw.st a u e h2
        rw [h1] at z
        cases z
    have q := R.sl i x hx
    cases x with
    | un => exact q
    | im d =>
      obtain ⟨v, e, h⟩ := q
      exact ⟨v, e, h.mono eg⟩
    | ol ds =>
      obtain ⟨a, xs, e1, e2, e3, e4, e5⟩ := q
      exact ⟨a, xs, e1, eh _ _ e2, key _ _ e2 e3, e4, e5.mono eg⟩
    | od ds =>
      obtain ⟨a, xs, e1, e2, e3, e4, e5⟩ := q
      exact ⟨a, xs, e1, eh _ _ e2, key _ _ e2 e3, e4, e5.mono eg⟩
    | st w os => exact StOk.mono eg eh nw.marks q
  ds := R.ds
  ln := R.ln
theorem Nw.new {G H : Hp} {p : Addr} {o : HO} [u : UnM o] (h : H p = none) : Nw G (upd G p o) H := by
  have m := u.h
  refine ⟨fun x u q n => ?_, fun x u q k => ?_⟩
  · by_cases z : x = p
    · rw [z]; exact h
    · rw [upd_ne z] at q
      rw [q] at n
      cases n
  · by_cases z : x = p
    · subst z
      rw [upd_same] at q
      cases q
      rw [m] at k
      cases k
    · rw [upd_ne z] at q
      exact q
theorem Nw.upd {G G' H : Hp} {p : Addr} {o : HO} (n : Nw G G' H) (h : H p = none) (m : isMk o = false) : Nw G (upd G' p o) H := by
  refine ⟨fun x u q k => ?_, fun x u q k => ?_⟩
  · by_cases z : x = p
    · rw [z]; exact h
    · rw [upd_ne z] at q
      exact n.st x u q k
  · by_cases z : x = p
    · subst z
      rw [upd_same] at q
      cases q
      rw [m] at k
      cases k
    · rw [upd_ne z] at q
      exact n.old x u q k
theorem Rel.new {p : Addr} {o : HO} [u : UnM o] (R : Rel K G0 H0 r s G H) (h : H p = none) : Rel K G0 H0 r s (upd G p o) (upd H p o) :=
  R.step (ex_new (R.gf p h)) (ex_new h) (by rw [um_upd u.h]; exact ex_upd R.gh) (Nw.new h)
theorem Rel.gf_upd (R : Rel K G0 H0 r s G H) {a b : Addr} {o : HO} (q : upd H a o b = none) : G b = none := by
  by_cases z : b = a
  · rw [z, upd_same] at q; cases q
  · rw [upd_ne z] at q; exact R.gf b q
theorem Rel.lay {p : Addr} {o : HO} (R : Rel K G0 H0 r s G H) (h : H p = none) : Rel K G0 H0 r s G (upd H p o) :=
  R.step (Same.refl _) (ex_new h) (ex_into R.gh (um_none (R.gf p h))) ⟨fun a u q n => (by rw [q] at n; cases n), fun a u q _ => q⟩
end
end PL
end
section
namespace PL
open PySem PySem.Spec PyProof.Rows L2
def RpE (K : PySem.W.Frag) (G : Hp) (s : St) (v : V) : D → Prop
  | .own i => s[i]? = some (some v)
  | .obj k => RpO K G v (.obj k)
  | .tpo ds => RpO K G v (.tpo ds)
  | .non => Rp K G v .non
  | .bl b => Rp K G v (.bl b)
  | .int b => Rp K G v (.int b)
  | .str b => Rp K G v (.str b)
  | .tup b => Rp K G v (.tup b)
  | .lst b => Rp K G v (.lst b)
  | .dic b => Rp K G v (.dic b)
  | .scr b => Rp K G v (.scr b)
  | .tpn b => Rp K G v (.tpn b)
  | .exc b => Rp K G v (.exc b)
  | .fn b => Rp K G v (.fn b)
def noOwn : D → Bool
  | .own _ => false
  | .obj _ => false
  | .tpo _ => false
  | _ => true
theorem RpE.im {K : PySem.W.Frag} {G : Hp} {s : St} {v : V} {d : D} (h : noOwn d = true) (r : RpE K G s v d) : Rp K G v d := by
  cases d with
  | own i => cases h
  | obj i => cases h
  | tpo i => cases h
  | _ => exact r
theorem Rp.e {K : PySem.W.Frag} {G : Hp} {s : St} {v : V} {d : D} (r : Rp K G v d) : RpE K G s v d := by
  cases d with
  | own i => cases r
  | obj i => cases r
  | tpo i => cases r
  | _ => exact r
theorem RpO.e {K : PySem.W.Frag} {G : Hp} {s : St} {v : V} {d : D} (r : RpO K G v d) : RpE K G s v d := by
  cases r with
  | pure r => exact r.e
  | obj h => exact RpO.obj h
  | tpo h q => exact RpO.tpo h q
theorem Rp.noOwn {K : PySem.W.Frag} {G : Hp} {v : V} {d : D} (r : Rp K G v d) : noOwn d = true := by
  cases r <;> rfl
theorem RpE.mono {K : PySem.W.Frag} {G G' : Hp} {s : St} {v : V} {d : D} (e : Ex G G') (r : RpE K G s v d) : RpE K G' s v d := by
  cases d with
  | own i => exact r
  | obj i => exact RpO.mono e r
  | tpo i => exact RpO.mono e r
  | _ => exact Rp.mono e r
def EZ : WX := fun _ _ _ _ => False
def clsV (mg : Str → Option Value) (c : Str) : Value := (mg c).getD .none
theorem Nw.refl (G H : Hp) : Nw G G H := ⟨fun a o h n => (by rw [h] at n; cases n), fun _ _ h _ => h⟩
theorem Nw.trans {G G1 G2 H H1 : Hp} (a : Nw G G1 H) (b : Nw G1 G2 H1) (e : Ex H H1) : Nw G G2 H := by
  refine ⟨fun x o h n => ?_, fun x o h m => a.old x o (b.old x o h m) m⟩
  cases q : G1 x with
  | some u => exact a.st x u q n
  | none => exact e.free (b.st x o h q)
structure Stt where
  G0 : Hp
  H0 : Hp
  r : Rho
  G : Hp
section
variable (K : PySem.W.Frag) (mg : Str → Option Value) (E : WX)
abbrev Rl (T : Stt) (s : St) (H : Hp) : Prop := Rel K T.G0 T.H0 T.r s T.G H
def KE {α : Type} (T : Stt) (s : St) (H : Hp) (P : α → Hp → Hp → Prop) : R α → Prop
  | .ok d => ∀ G' H', Ex T.G G' → Ex H H' → Nw T.G G' H → Rel K T.G0 T.H0 T.r s G' H' → P d G' H'
  | .err c => ∀ H', Ex T.H0 H' → Ex H H' → E (clsV mg c) none s H'
  | .stuck => False
def tE (f : Rho → R D) : TE := fun s H Q => ∃ T, Rl K T s H ∧ KE K mg E T s H (fun d G' H' => ∀ v, RpE K G' s v d → Q v H') (f T.r)
def tA (f : Rho → R (List D)) : TA := fun s H Q => ∃ T, Rl K T s H ∧ KE K mg E T s H (fun ds G' H' => ∀ vs, RpA K G' vs ds → Q vs H') (f T.r)
def tT (f : Rho → R Bool) : TT := fun s H Q => ∃ T, Rl K T s H ∧ KE K mg E T s H (fun b _ H' => Q b H') (f T.r)
def tN (f : Rho → R (List D)) : TE := fun s H Q => ∃ T, Rl K T s H ∧ KE K mg E T s H (fun ds G' H' => ∀ p xs, H p = none → H' p = some (.lst xs) → G' p = none → RpA K G' xs ds → Q (.ref p) H') (f T.r)
end
def EV (X : Cx) (E : WX) (e : Expr) (f : Rho → R D) : Prop := PE X e (tE X.K X.mg E f)
def EA (X : Cx) (E : WX) (e : List Expr) (f : Rho → R (List D)) : Prop := PA X e (tA X.K X.mg E f)
def ET (X : Cx) (E : WX) (e : Expr) (f : Rho → R Bool) : Prop := PT X e (tT X.K X.mg E f)
def EW (X : Cx) (E : WX) (e : Expr) (f : Rho → R Bool) : Prop := PW X e (tT X.K X.mg E f)
def EN (X : Cx) (E : WX) (e : Expr) (f : Rho → R (List D)) : Prop := PE X e (tN X.K X.mg E f)
theorem pe_imp {X : Cx} {e : Expr} {t t' : TE} (h : PE X e t) (i : ∀ s H Q, t' s H Q → t s H Q) : PE X e t' := ⟨fun pins s σ H Q I q => h.run pins s σ H Q I (i _ _ _ q)⟩
theorem pe_impL {X : Cx} {e : Expr} {t t' : TE} (h : PE X e t) (i : ∀ s H Q, s.length = X.N.length → t' s H Q → t s H Q) : PE X e t' := ⟨fun pins s σ H Q I q => h.run pins s σ H Q I (i _ _ _ I.len q)⟩
theorem pa_imp {X : Cx} {e : List Expr} {t t' : TA} (h : PA X e t) (i : ∀ s H Q, t' s H Q → t s H Q) : PA X e t' := ⟨fun pos pins s σ H Q I q => h.run pos pins s σ H Q I (i _ _ _ q)⟩
theorem pt_imp {X : Cx} {e : Expr} {t t' : TT} (h : PT X e t) (i : ∀ s H Q, t' s H Q → t s H Q) : PT X e t' := ⟨fun pins s σ H Q I q => h.run pins s σ H Q I (i _ _ _ q)⟩
theorem pw_imp {X : Cx} {e : Expr} {t t' : TT} (h : PW X e t) (i : ∀ s H Q, t' s H Q → t s H Q) : PW X e t' := ⟨fun wh pins s σ H Q I q => h.run wh pins s σ H Q I (i _ _ _ q)⟩
section
variable {K : PySem.W.Frag} {mg : Str → Option Value} {E : WX}
theorem KE.bndN {α β : Type} {T : Stt} {s : St} {H : Hp} {P : β → Hp → Hp → Prop} {P' : α → Hp → Hp → Prop} {x : R α} {k : α → R β}
    (h : KE K mg E T s H P (x.bnd k)) (hk : ∀ d G' H', x = .ok d → Ex T.G G' → Ex H H' → Nw T.G G' H → Rel K T.G0 T.H0 T.r s G' H' → KE K mg E { T with G := G' } s H' P (k d) → P' d G' H') : KE K mg E T s H P' x := by
  cases x with
  | ok d =>
    intro G' H' eg eh nw R'
    refine hk d G' H' rfl eg eh nw R' ?_
    have h2 : KE K mg E T s H P (k d) := h
    cases q : k d with
    | ok b =>
      rw [q] at h2
      intro G2 H2 eg2 eh2 nw2 R2
      exact h2 G2 H2 (eg.trans eg2) (eh.trans eh2) (nw.trans nw2 eh) R2
    | err c =>
      rw [q] at h2
      exact fun H2 e0 e2 => h2 H2 e0 (eh.trans e2)
    | stuck =>
      rw [q] at h2
      exact h2
  | err c => exact h
  | stuck => exact h
theorem KE.bnd {α β : Type} {T : Stt} {s : St} {H : Hp} {P : β → Hp → Hp → Prop} {P' : α → Hp → Hp → Prop} {x : R α} {k : α → R β}
    (h : KE K mg E T s H P (x.bnd k)) (hk : ∀ d G' H', x = .ok d → Ex T.G G' → Ex H H' → Rel K T.G0 T.H0 T.r s G' H' → KE K mg E { T with G := G' } s H' P (k d) → P' d G' H') : KE K mg E T s H P' x :=
  KE.bndN h fun d G' H' e eg eh _ R' q => hk d G' H' e eg eh R' q
theorem KE.here {α : Type} {T : Stt} {s : St} {H : Hp} {P : α → Hp → Hp → Prop} {d : α} (h : KE K mg E T s H P (.ok d)) (R : Rl K T s H) : P d T.G H := h T.G H (Same.refl _) (Same.refl _) (Nw.refl _ _) R
theorem KE.imp {α : Type} {T : Stt} {s : St} {H : Hp} {P P' : α → Hp → Hp → Prop} {x : R α} (h : KE K mg E T s H P x) (i : ∀ d G' H', Ex T.G G' → Ex H H' → Rel K T.G0 T.H0 T.r s G' H' → P d G' H' → P' d G' H') : KE K mg E T s H P' x := by
  cases x with
  | ok d => exact fun G' H' a b n c => i d G' H' a b c (h G' H' a b n c)
  | err c => exact h
  | stuck => exact h
theorem tE.of {f : Rho → R D} {s : St} {H : Hp} {Q : VK} {T : Stt} (R : Rl K T s H) (h : KE K mg E T s H (fun d G' H' => ∀ v, RpE K G' s v d → Q v H') (f T.r)) : tE K mg E f s H Q := ⟨T, R, h⟩
end
def fVar (i : Nat) (r : Rho) : R D := match r[i]? with
  | some (.im d) => .ok d
  | some (.ol _) => .ok (.own i)
  | some (.od _) => .ok (.own i)
  | _ => .stuck
section
variable {X : Cx} {E : WX}
theorem ev_var (i : Nat) {x : Str} {pos : Pos} (hN : X.N[i]? = some x := by rfl) (hv : Vis X.env.scope x := by first | exact Or.inl rfl | exact Or.inr (Or.inl rfl) | exact Or.inr (Or.inr rfl)) (hd : (x == ("__debug__" : Str)) = false := by decide)
    (hcd : (x == ("__classdict__" : Str)) = false := by decide) : EV X E (.Name x pos) (fVar i) := by
  refine pe_imp (pe_var (i := i) hN hv hd hcd) fun s H Q ⟨T, R, h⟩ => ?_
  unfold fVar at h
  cases e : T.r[i]? with
  | none => rw [e] at h; exact h.elim
  | some x =>
    rw [e] at h
    have q := R.sl i x e
    cases x with
    | un => exact h.elim
    | im d =>
      obtain ⟨v, e1, e2⟩ := q
      have e3 : s[i]? = some (some v) := by
        cases e4 : s[i]? with
        | none => rw [e4] at e1; cases e1
        | some o => rw [e4] at e1; exact congrArg some e1
      exact ⟨v, e3, h.here R v e2.e⟩
    | ol ds =>
      obtain ⟨a, xs, e1, _⟩ := q
      have e3 : s[i]? = some (some (.ref a)) := by
        cases e4 : s[i]? with
        | none => rw [e4] at e1; cases e1
        | some o => rw [e4] at e1; exact congrArg some e1
      exact ⟨_, e3, h.here R _ e3⟩
    | od ds =>
      obtain ⟨a, xs, e1, _⟩ := q
      have e3 : s[i]? = some (some (.ref a)) := by
        cases e4 : s[i]? with
        | none => rw [e4] at e1; cases e1
        | some o => rw [e4] at e1; exact congrArg some e1
      exact ⟨_, e3, h.here R _ e3⟩
    | st w os => exact h.elim
theorem ev_int {i j pos} : EV X E (.Constant (.int i) j pos) (fun _ => .ok (.int i)) := pe_imp pe_int fun s H Q ⟨T, R, h⟩ => h.here R _ (Rp.int i)
theorem ev_bl {i j pos} : EV X E (.Constant (.bool i) j pos) (fun _ => .ok (.bl i)) := pe_imp pe_bl fun s H Q ⟨T, R, h⟩ => h.here R _ (Rp.bl i)
theorem ev_non {j pos} : EV X E (.Constant .none j pos) (fun _ => .ok .non) := pe_imp pe_non fun s H Q ⟨T, R, h⟩ => h.here R _ Rp.non
theorem ev_str {x j pos} : EV X E (.Constant (.str x) j pos) (fun _ => .ok (.str x)) := pe_imp pe_str fun s H Q ⟨T, R, h⟩ => h.here R _ (Rp.str x)
def Kon (K : PySem.W.Frag) (mg : Str → Option Value) (x : Str) (d : D) : Prop := ∃ u v, mg x = some u ∧ RelV v u ∧ ∀ G, Rp K G v d
theorem ev_glob {x : Str} {d : D} {pos : Pos} (h : Kon X.K X.mg x d) (hg : Gl X x) (hd : (x == ("__debug__" : Str)) = false := by decide) : EV X E (.Name x pos) (fun _ => .ok d) := by
  obtain ⟨u, v, hm, rv, hv⟩ := h
  exact pe_imp (pe_glob hg hm rv hd) fun s H Q ⟨T, R, h⟩ => h.here R _ (hv _).e
end
def OpS (K : PySem.W.Frag) (r : R2) (g : Rho → D → D → R D) : Prop := ∀ (mg : Str → Option Value) (E : WX) (T : Stt) (s : St) (H : Hp) (x y : V) (dx dy : D) (Q : VK), Rl K T s H → RpE K T.G s x dx → RpE K T.G s y dy →
  KE K mg E T s H (fun d G' H' => ∀ v, RpE K G' s v d → Q v H') (g T.r dx dy) → r x y H Q
theorem OpS.or {K : PySem.W.Frag} {r r' : R2} {g g' : Rho → D → D → R D} (sel : D → D → Bool) (h : OpS K r g) (h' : OpS K r' g') : OpS K (fun x y H Q => r x y H Q ∨ r' x y H Q) (fun rr x y => if sel x y then g rr x y else g' rr x y) := by
  intro mg E T s H x y dx dy Q R rx ry q
  cases e : sel dx dy with
  | true => exact .inl (h mg E T s H x y dx dy Q R rx ry (by simpa [e] using q))
  | false => exact .inr (h' mg E T s H x y dx dy Q R rx ry (by simpa [e] using q))
def fBin (g : Rho → D → D → R D) (fa fb : Rho → R D) (r : Rho) : R D := (fa r).bnd fun x => (fb r).bnd fun y => g r x y
section
variable {X : Cx} {E : WX} {a b c : Expr} {fa fb fc : Rho → R D} {pos : Pos}
theorem op_red {K : PySem.W.Frag} {mg : Str → Option Value} {r : R2} {g : Rho → D → D → R D} (hg : OpS K r g) {s : St} {H : Hp} {Q : VK} (h : tE K mg E (fBin g fa fb) s H Q) : tOp r (tE K mg E fa) (tE K mg E fb) s H Q := by
  obtain ⟨T, R, h⟩ := h
  refine ⟨T, R, KE.bnd h fun d G1 H1 _ eg eh R1 h1 v rv => ?_⟩
  refine ⟨{ T with G := G1 }, R1, KE.bnd h1 fun d2 G2 H2 _ eg2 eh2 R2 h2 v2 rv2 => ?_⟩
  exact hg mg E { T with G := G2 } s H2 v v2 d d2 Q R2 (rv.mono eg2) rv2 h2
theorem ev_op {op : Operator} {r : R2} {g : Rho → D → D → R D} (ho : OpR X (binaryOp op) r) (hg : OpS X.K r g) (ha : EV X E a fa) (hb : EV X E b fb) : EV X E (.BinOp a op b pos) (fBin g fa fb) :=
  pe_imp (pe_op ho ha hb) fun s H Q h => op_red hg h
theorem ev_cmp {op : CmpOp} {r : R2} {g : Rho → D → D → R D} (ho : OpR X (compareOp op) r) (hg : OpS X.K r g) (ha : EV X E a fa) (hb : EV X E b fb) (hm : behindInMarks op b = false) : EV X E (.Compare a [op] [b] pos) (fBin g fa fb) :=
  pe_imp (pe_cmpR ho ha hb hm) fun s H Q h => op_red hg h
def boolOf : D → R Bool
  | .bl b => .ok b
  | _ => .stuck
def fTest (f : Rho → R D) (r : Rho) : R Bool := (f r).bnd boolOf
theorem tE_test {K : PySem.W.Frag} {mg : Str → Option Value} {f : Rho → R D} {s : St} {H : Hp} {Q : Bool → Hp → Prop} (h : tT K mg E (fTest f) s H Q) : tE K mg E f s H (fun x H' => ∃ k, x = .bl k ∧ Q k H') := by
  obtain ⟨T, R, h⟩ := h
  refine ⟨T, R, KE.bnd h fun d G1 H1 _ eg eh R1 h1 v rv => ?_⟩
  cases d with
  | bl b =>
    cases (show Rp K G1 v (.bl b) from rv)
    exact ⟨b, rfl, KE.here h1 R1⟩
  | _ => exact h1.elim
theorem et_cmp {op : CmpOp} {r : R2} {g : Rho → D → D → R D} (ho : OpR X (compareOp op) r) (hg : OpS X.K r g) (ha : EV X E a fa) (hb : EV X E b fb) (hm : behindInMarks op b = false) : ET X E (.Compare a [op] [b] pos) (fTest (fBin g fa fb)) :=
  pt_imp (pt_cmpR ho ha hb hm) fun s H Q h => op_red hg (tE_test h)
theorem et_val (ha : EV X E a fa) (he : ∀ whole, isTrue a X.env whole = (do let v ← whole; standAt a.pos; holding [v] (truthy v)) := by intro _; rfl) : ET X E a (fTest fa) :=
  pt_imp (pt_val ha he) fun s H Q h => tE_test h
def fChain (g g' : Rho → D → D → R D) (fa fb fc : Rho → R D) (r : Rho) : R D := (fa r).bnd fun x => (fb r).bnd fun y => (g r x y).bnd fun z => (boolOf z).bnd fun k => if k then (fc r).bnd fun w => g' r y w else .ok (.bl false)
theorem chain_red {K : PySem.W.Frag} {mg : Str → Option Value} {r r' : R2} {g g' : Rho → D → D → R D} (hg : OpS K r g) (hg' : OpS K r' g') {s : St} {H : Hp} {Q : VK} (h : tE K mg E (fChain g g' fa fb fc) s H Q) : tChain r r' (tE K mg E fa) (tE K mg E fb) (tE K mg E fc) s H Q := by
  obtain ⟨T, R, h⟩ := h
  refine ⟨T, R, KE.bnd h fun d G1 H1 _ eg eh R1 h1 v rv => ?_⟩
  refine ⟨{ T with G := G1 }, R1, KE.bnd h1 fun d2 G2 H2 _ eg2 eh2 R2 h2 v2 rv2 => ?_⟩
  refine hg mg E { T with G := G2 } s H2 v v2 d d2 _ R2 (rv.mono eg2) rv2 (KE.bnd h2 fun d3 G3 H3 _ eg3 eh3 R3 h3 v3 rv3 => ?_)
  cases d3 with
  | bl k =>
    cases (show Rp K G3 v3 (.bl k) from rv3)
    refine ⟨k, rfl, ?_⟩
    cases k with
    | false => exact KE.here h3 R3 _ (Rp.bl false)
    | true =>
      show tE K mg E fc s H3 _
      refine ⟨{ T with G := G3 }, R3, KE.bnd (show KE K mg E { T with G := G3 } s H3 _ ((fc T.r).bnd fun w => g' T.r d2 w) from h3) fun d4 G4 H4 _ eg4 eh4 R4 h4 v4 rv4 => ?_⟩
      exact hg' mg E { T with G := G4 } s H4 v2 v4 d2 d4 Q R4 ((rv2.mono eg3).mono eg4) rv4 h4
  | _ => exact h3.elim
theorem ev_chain {op op' : CmpOp} {r r' : R2} {g g' : Rho → D → D → R D} (ho : OpR X (compareOp op) r) (hg : OpS X.K r g) (ho' : OpR X (compareOp op') r') (hg' : OpS X.K r' g') (ha : EV X E a fa) (hb : EV X E b fb) (hc : EV X E c fc)
    (hm : lastMarks [op, op'] [b, c] = false := by with_unfolding_all rfl) : EV X E (.Compare a [op, op'] [b, c] pos) (fChain g g' fa fb fc) :=
  pe_imp (pe_chain ho ho' ha hb hc hm) fun s H Q h => chain_red hg hg' h
theorem et_chain {op op' : CmpOp} {r r' : R2} {g g' : Rho → D → D → R D} (ho : OpR X (compareOp op) r) (hg : OpS X.K r g) (ho' : OpR X (compareOp op') r') (hg' : OpS X.K r' g') (ha : EV X E a fa) (hb : EV X E b fb) (hc : EV X E c fc)
    (hm : lastMarks [op, op'] [b, c] = false := by with_unfolding_all rfl) : ET X E (.Compare a [op, op'] [b, c] pos) (fTest (fChain g g' fa fb fc)) :=
  pt_imp (pt_chain ho ho' ha hb hc hm) fun s H Q h => chain_red hg hg' (tE_test h)
variable {ga gb : Rho → R Bool} {rest : List Expr}
def fAnd (ga gb : Rho → R Bool) (r : Rho) : R Bool := (ga r).bnd fun x => if x then gb r else .ok false
def fOr (ga gb : Rho → R Bool) (r : Rho) : R Bool := (ga r).bnd fun x => if x then .ok true else gb r
def fNot (ga : Rho → R Bool) (r : Rho) : R Bool := (ga r).bnd fun x => .ok (!x)
theorem ew_and1 (ha : ET X E a ga) : EW X E (.BoolOp .And [a] pos) ga := pw_and1 ha
theorem ew_or1 (ha : ET X E a ga) : EW X E (.BoolOp .Or [a] pos) ga := pw_or1 ha
theorem ew_and (ha : ET X E a ga) (hb : EW X E (.BoolOp .And (b :: rest) pos) gb) : EW X E (.BoolOp .And (a :: b :: rest) pos) (fAnd ga gb) :=
  pw_imp (pw_and ha hb) fun s H Q ⟨T, R, h⟩ => ⟨T, R, KE.bnd h fun d G1 H1 _ eg eh R1 h1 => by
    cases d with
    | true => exact ⟨{ T with G := G1 }, R1, h1⟩
    | false => exact KE.here h1 R1⟩
theorem ew_or (ha : ET X E a ga) (hb : EW X E (.BoolOp .Or (b :: rest) pos) gb) : EW X E (.BoolOp .Or (a :: b :: rest) pos) (fOr ga gb) :=
  pw_imp (pw_or ha hb) fun s H Q ⟨T, R, h⟩ => ⟨T, R, KE.bnd h fun d G1 H1 _ eg eh R1 h1 => by
    cases d with
    | false => exact ⟨{ T with G := G1 }, R1, h1⟩
    | true => exact KE.here h1 R1⟩
theorem EW.et (h : EW X E a ga) : ET X E a ga := PW.pt h
theorem et_not (ha : ET X E a ga) : ET X E (.UnaryOp .Not a pos) (fNot ga) :=
  pt_imp (pt_not ha) fun s H Q ⟨T, R, h⟩ => ⟨T, R, KE.bnd h fun d G1 H1 _ eg eh R1 h1 => KE.here h1 R1⟩
def fAndV (fa fb : Rho → R D) (r : Rho) : R D := (fa r).bnd fun x => (boolOf x).bnd fun k => if k then fb r else .ok (.bl false)
def fOrV (fa fb : Rho → R D) (r : Rho) : R D := (fa r).bnd fun x => (boolOf x).bnd fun k => if k then .ok (.bl true) else fb r
def fNotV (fa : Rho → R D) (r : Rho) : R D := (fa r).bnd fun x => (boolOf x).bnd fun k => .ok (.bl (!k))
theorem ev_one {op} (h : EV X E a fa) : EV X E (.BoolOp op [a] pos) fa := pe_one h
theorem ev_and (ha : EV X E a fa) (hb : EV X E (.BoolOp .And (b :: rest) pos) fb) : EV X E (.BoolOp .And (a :: b :: rest) pos) (fAndV fa fb) :=
  pe_imp (pe_and ha hb) fun s H Q ⟨T, R, h⟩ => ⟨T, R, KE.bnd h fun d G1 H1 _ eg eh R1 h1 v rv => by
    cases d with
    | bl k =>
      cases (show Rp X.K G1 v (.bl k) from rv)
      refine ⟨k, rfl, ?_⟩
      cases k with
      | true => exact ⟨{ T with G := G1 }, R1, h1⟩
      | false => exact KE.here h1 R1 _ (Rp.bl false)
    | _ => exact h1.elim⟩
theorem ev_not (ha : EV X E a fa) : EV X E (.UnaryOp .Not a pos) (fNotV fa) :=
  pe_imp (pe_not ha) fun s H Q ⟨T, R, h⟩ => ⟨T, R, KE.bnd h fun d G1 H1 _ eg eh R1 h1 v rv => by
    cases d with
    | bl k =>
      cases (show Rp X.K G1 v (.bl k) from rv)
      exact ⟨k, rfl, KE.here h1 R1 _ (Rp.bl (!k))⟩
    | _ => exact h1.elim⟩
def fIf (g : Rho → R Bool) (fa fb : Rho → R D) (r : Rho) : R D := (g r).bnd fun k => if k then fa r else fb r
theorem ev_if (hc : ET X E c ga) (ha : EV X E a fa) (hb : EV X E b fb) : EV X E (.IfExp c a b pos) (fIf ga fa fb) :=
  pe_imp (pe_ifExp hc ha hb) fun s H Q ⟨T, R, h⟩ => ⟨T, R, KE.bnd h fun d G1 H1 _ eg eh R1 h1 => by
    cases d with
    | true => exact ⟨{ T with G := G1 }, R1, h1⟩
    | false => exact ⟨{ T with G := G1 }, R1, h1⟩⟩
variable {es : List Expr} {fs : Rho → R (List D)}
def fNil (_ : Rho) : R (List D) := .ok []
def imD (d : D) : R D := if noOwn d then .ok d else .stuck
def fCons (f : Rho → R D) (fs : Rho → R (List D)) (r : Rho) : R (List D) := (f r).bnd fun d => (imD d).bnd fun d => (fs r).bnd fun ds => .ok (d :: ds)
theorem ea_nil : EA X E [] fNil := pa_imp pa_nil fun s H Q ⟨T, R, h⟩ => h.here R [] .nil
theorem imD_ok {d d' : D} (h : imD d = .ok d') : d' = d ∧ noOwn d = true := by
  unfold imD at h
  cases e : noOwn d with
  | true => rw [e] at h; exact ⟨(R.ok.inj h).symm, rfl⟩
  | false => rw [e] at h; cases h
end
end PL
end
section
namespace PL
open PySem PySem.Spec PyProof.Rows L2
section
variable {X : Cx} {E : WX} {a b c : Expr} {fa fb fc : Rho → R D} {pos : Pos} {es : List Expr} {fs : Rho → R (List D)} {K : PySem.W.Frag}
theorem ea_cons (ha : EV X E a fa) (hr : EA X E es fs) (hs : starEach (a :: es) X.env = (false, eval a X.env) :: starEach es X.env := by rfl) : EA X E (a :: es) (fCons fa fs) :=
  pa_imp (pa_cons ha hr hs) fun s H Q ⟨T, R, h⟩ => ⟨T, R, KE.bnd h fun d G1 H1 _ eg eh R1 h1 v rv => by
    unfold imD at h1
    cases e : noOwn d with
    | false => rw [e] at h1; exact h1.elim
    | true =>
      rw [e] at h1
      refine ⟨{ T with G := G1 }, R1, KE.bnd (show KE X.K X.mg E { T with G := G1 } s H1 _ ((fs T.r).bnd fun ds => .ok (d :: ds)) from h1) fun ds G2 H2 _ eg2 eh2 R2 h2 vs rvs => ?_⟩
      exact KE.here h2 R2 _ (.cons ((RpE.im e rv).mono eg2) rvs)⟩
theorem KE.new {mg : Str → Option Value} {T : Stt} {s : St} {H : Hp} {P : D → Hp → Hp → Prop} {d : D} (h : KE K mg E T s H P (.ok d)) (R : Rl K T s H) {p : Addr} {o : HO} [UnM o] (hp : H p = none) : P d (upd T.G p o) (upd H p o) :=
  h _ _ (ex_new (R.gf _ hp)) (ex_new hp) (Nw.new hp) (R.new hp)
def szD (ds : List D) : Bool := decide (ds.length ≤ sizeLine)
def fTup (fs : Rho → R (List D)) (r : Rho) : R D := (fs r).bnd fun ds => if szD ds then .ok (.tup ds) else .stuck
theorem ev_tup {x1} (h : EA X E es fs) : EV X E (.Tuple es x1 pos) (fTup fs) :=
  pe_imp (pe_tup h) fun s H Q ⟨T, R, h⟩ => ⟨T, R, KE.bnd h fun ds G1 H1 _ eg eh R1 h1 vs rvs => by
    cases e : szD ds with
    | false => rw [e] at h1; exact h1.elim
    | true =>
      rw [e] at h1
      have ez : vs.length ≤ sizeLine := by rw [rvs.length]; exact of_decide_eq_true e
      exact ⟨ez, fun p hp => KE.new (show KE X.K X.mg E { T with G := G1 } s H1 _ (.ok (.tup ds)) from h1) R1 hp _ (Rp.tup (SqT.of upd_same) (rvs.mono (ex_new (R1.gf _ hp))))⟩⟩
theorem KE.lay {mg : Str → Option Value} {T : Stt} {s : St} {H : Hp} {P : List D → Hp → Hp → Prop} {d : List D} (h : KE K mg E T s H P (.ok d)) (R : Rl K T s H) {p : Addr} {o : HO} (hp : H p = none) : P d T.G (upd H p o) :=
  h _ _ (Same.refl _) (ex_new hp) (Nw.refl _ _) (R.lay hp)
def fLst (fs : Rho → R (List D)) (r : Rho) : R (List D) := (fs r).bnd fun ds => if szD ds then .ok ds else .stuck
theorem en_lst (h : EA X E es fs) : EN X E (.List es pos) (fLst fs) :=
  pe_imp (pe_lst h) fun s H Q ⟨T, R, h⟩ => ⟨T, R, KE.bnd h fun ds G1 H1 _ eg eh R1 h1 vs rvs => by
    cases e : szD ds with
    | false => rw [e] at h1; exact h1.elim
    | true =>
      rw [e] at h1
      have ez : vs.length ≤ sizeLine := by rw [rvs.length]; exact of_decide_eq_true e
      exact ⟨ez, fun p hp => KE.lay (show KE X.K X.mg E { T with G := G1 } s H1 _ (.ok ds) from h1) R1 hp p vs (eh.free hp) upd_same (R1.gf _ hp) rvs⟩⟩
theorem Rel.freeze {G0 H0 G H : Hp} {r : Rho} {s : St} {p : Addr} {o : HO} [um' : UnM o] (R : Rel K G0 H0 r s G H) (h : H p = some o) (h0 : H0 p = none) (hg : G p = none) (hn : ∀ i, ¬ OwnAt r s i p) : Rel K G0 H0 r s (upd G p o) H where
  gg := R.gg.trans (ex_new hg)
  hh := R.hh
  gh := fun a u q => by
    rw [um_upd um'.h] at q
    by_cases z : a = p
    · subst z
      rw [upd_same] at q
      rw [h, ← q]
    · rw [upd_ne z] at q
      exact R.gh _ _ q
  gf := fun a q => by
    by_cases z : a = p
    · rw [z, h] at q; cases q
    · rw [upd_ne z]
      exact R.gf a q
  nw := fun a u q n => by
    by_cases z : a = p
    · rw [z]; exact h0
    · rw [upd_ne z] at q
      exact R.nw a u q n
  sl := fun i x hx => by
    have q := R.sl i x hx
    have ge : Ex G (upd G p o) := ex_new hg
    cases x with
    | un => exact q
    | im d =>
      obtain ⟨v, e, z⟩ := q
      exact ⟨v, e, z.mono ge⟩
    | ol ds =>
      obtain ⟨a, xs, e1, e2, e3, e4, e5⟩ := q
      have na : a ≠ p := fun z => by
        subst z
        refine hn i ⟨?_, ?_⟩
        · rw [hx]; trivial
        · cases e6 : s[i]? with
          | none => rw [e6] at e1; cases e1
          | some w => rw [e6] at e1; exact congrArg some e1
      exact ⟨a, xs, e1, e2, by rw [upd_ne na]; exact e3, e4, e5.mono ge⟩
    | od ds =>
      obtain ⟨a, xs, e1, e2, e3, e4, e5⟩ := q
      have na : a ≠ p := fun z => by
        subst z
        refine hn i ⟨?_, ?_⟩
        · rw [hx]; trivial
        · cases e6 : s[i]? with
          | none => rw [e6] at e1; cases e1
          | some w => rw [e6] at e1; exact congrArg some e1
      exact ⟨a, xs, e1, e2, by rw [upd_ne na]; exact e3, e4, e5.mono ge⟩
    | st w os => exact StOk.mono ge (Same.refl _) (fun a k q => by
        by_cases z : a = p
        · subst z
          rw [upd_same] at q
          cases q
          cases um'.h
        · rw [upd_ne z] at q
          exact q) q
  ds := R.ds
  ln := R.ln
def fL (fs : Rho → R (List D)) (r : Rho) : R D := (fs r).bnd fun ds => .ok (.lst ds)
theorem tN_tE {mg : Str → Option Value} {s : St} {H : Hp} {Q : VK} (h : tE K mg E (fL fs) s H Q) : tN K mg E fs s H Q := by
  obtain ⟨T, R, h⟩ := h
  refine ⟨T, R, ?_⟩
  unfold fL at h
  cases e : fs T.r with
  | ok ds =>
    rw [e] at h
    intro G1 H1 eg eh nw R1 p xs hp h2 hg hr
    have hn : ∀ i, ¬ OwnAt T.r s i p := fun i o => by
      obtain ⟨⟨u, e⟩, _⟩ := own_in R o
      rw [e] at hp
      cases hp
    have h3 : KE K mg E T s H (fun d G' H' => ∀ v, RpE K G' s v d → Q v H') (.ok (D.lst ds)) := h
    exact h3 (upd G1 p (.lst xs)) H1 (eg.trans (ex_new hg)) eh (nw.upd hp rfl) (R1.freeze h2 (R.hh.free hp) hg hn) _ (Rp.lst upd_same (hr.mono (ex_new hg)))
  | err c => rw [e] at h; exact h
  | stuck => rw [e] at h; exact h
theorem EN.ev (h : EN X E a fs) : EV X E a (fL fs) := pe_imp h fun s H Q q => tN_tE q
def stOf (r : Rho) : List Ob := match r.getLast? with
  | some (.st _ os) => os
  | _ => []
theorem obj_at {K : PySem.W.Frag} {G0 H0 G H : Hp} {r : Rho} {s : St} (R : Rel K G0 H0 r s G H) {k : Nat} {ob : Ob} {a : Addr} (h : (stOf r)[k]? = some ob) (ha : G a = some (mrk k)) : ObOk K G H a ob := by
  unfold stOf at h
  cases e : r.getLast? with
  | none => rw [e] at h; simp at h
  | some x =>
    rw [e] at h
    cases x with
    | st w os =>
      rw [List.getLast?_eq_getElem?] at e
      have S := (show StOk K H0 G H w os from R.sl _ _ e)
      obtain ⟨b, hb, q⟩ := S.at_ k ob h
      rw [S.un a b k ha hb]
      exact q
    | _ => simp at h
def viewD (r : Rho) : D → Option (List D)
  | .tup ds => some ds
  | .lst ds => some ds
  | .scr ns => some (ns.map .int)
  | .obj k => match (stOf r)[k]? with
    | some (.ls ds) => some ds
    | _ => none
  | .own i => match r[i]? with
    | some (.ol ds) => some ds
    | _ => none
  | _ => none
theorem own_list {T : Stt} {s : St} {H : Hp} {i : Nat} {v : V} {ds : List D} (R : Rl K T s H) (hv : s[i]? = some (some v)) (h : T.r[i]? = some (.ol ds)) : ∃ a xs, v = .ref a ∧ H a = some (.lst xs) ∧ RpA K T.G xs ds := by
  have q := R.sl i _ h
  rw [hv] at q
  obtain ⟨a, xs, e1, e2, _, _, e5⟩ := q
  exact ⟨a, xs, Option.some.inj e1, e2, e5⟩
theorem view_ok {T : Stt} {s : St} {H : Hp} {v : V} {d : D} {ds : List D} (R : Rl K T s H) (rv : RpE K T.G s v d) (h : viewD T.r d = some ds) : ∃ a xs, v = .ref a ∧ (SqL K H a xs ∨ SqT K H a xs) ∧ RpA K T.G xs ds := by
  cases d with
  | tup es =>
    cases h
    cases (show Rp K T.G v (.tup ds) from rv) with
    | tup h1 h2 => exact ⟨_, _, rfl, .inr (R.sqt h1), h2⟩
  | lst es =>
    cases h
    cases (show Rp K T.G v (.lst ds) from rv) with
    | lst h1 h2 => exact ⟨_, _, rfl, .inl (SqL.of (R.at h1 rfl)), h2⟩
  | scr ns =>
    cases h
    cases (show Rp K T.G v (.scr ns) from rv) with
    | scr h1 => exact ⟨_, _, rfl, .inl (R.sql h1), RpA.ints ns⟩
  | own i =>
    simp only [viewD] at h
    cases e : T.r[i]? with
    | none => rw [e] at h; cases h
    | some x =>
      rw [e] at h
      cases x with
      | ol es =>
        cases h
        obtain ⟨a, xs, e1, e2, e3⟩ := own_list R rv e
        exact ⟨a, xs, e1, .inl (SqL.of e2), e3⟩
      | _ => cases h
  | obj k =>
    simp only [viewD] at h
    cases e : (stOf T.r)[k]? with
    | none => rw [e] at h; cases h
    | some x =>
      rw [e] at h
      cases x with
      | ls es =>
        cases h
        cases (show RpO K T.G v (.obj k) from rv) with
        | pure h0 => cases h0
        | obj h1 =>
          obtain ⟨xs, e2, e3⟩ := obj_at R e h1
          exact ⟨_, xs, rfl, .inl (SqL.of e2), e3⟩
      | _ => cases h
  | _ => cases h
def viewL (r : Rho) : D → Option (List D)
  | .lst ds => some ds
  | .obj k => match (stOf r)[k]? with
    | some (.ls ds) => some ds
    | _ => none
  | .own i => match r[i]? with
    | some (.ol ds) => some ds
    | _ => none
  | _ => none
theorem viewL_ok {T : Stt} {s : St} {H : Hp} {v : V} {d : D} {ds : List D} (R : Rl K T s H) (rv : RpE K T.G s v d) (h : viewL T.r d = some ds) : ∃ a xs, v = .ref a ∧ H a = some (.lst xs) ∧ RpA K T.G xs ds := by
  cases d with
  | lst es =>
    cases h
    cases (show Rp K T.G v (.lst ds) from rv) with
    | lst h1 h2 => exact ⟨_, _, rfl, R.at h1 rfl, h2⟩
  | own i =>
    simp only [viewL] at h
    cases e : T.r[i]? with
    | none => rw [e] at h; cases h
    | some x =>
      rw [e] at h
      cases x with
      | ol es =>
        cases h
        exact own_list R rv e
      | _ => cases h
  | obj k =>
    simp only [viewL] at h
    cases e : (stOf T.r)[k]? with
    | none => rw [e] at h; cases h
    | some x =>
      rw [e] at h
      cases x with
      | ls es =>
        cases h
        cases (show RpO K T.G v (.obj k) from rv) with
        | pure h0 => cases h0
        | obj h1 =>
          obtain ⟨xs, e2, e3⟩ := obj_at R e h1
          exact ⟨_, xs, rfl, e2, e3⟩
      | _ => cases h
  | _ => cases h
theorem tup_ok {T : Stt} {s : St} {H : Hp} {v : V} {ds : List D} (R : Rl K T s H) (rv : RpE K T.G s v (.tup ds)) : ∃ a xs, v = .ref a ∧ SqT K T.G a xs ∧ SqT K H a xs ∧ RpA K T.G xs ds := by
  cases (show Rp K T.G v (.tup ds) from rv) with
  | tup h1 h2 => exact ⟨_, _, rfl, h1, R.sqt h1, h2⟩
theorem fin {mg : Str → Option Value} {T : Stt} {s : St} {H : Hp} {Q : VK} (d : D) {v : V} (h : KE K mg E T s H (fun d G' H' => ∀ v, RpE K G' s v d → Q v H') (.ok d)) (R : Rl K T s H) (r : Rp K T.G v d) : Q v H := KE.here h R v r.e
theorem finNew {mg : Str → Option Value} {T : Stt} {s : St} {H : Hp} {Q : VK} (d : D) {v : V} (h : KE K mg E T s H (fun d G' H' => ∀ v, RpE K G' s v d → Q v H') (.ok d)) (R : Rl K T s H) {p : Addr} {o : HO} [UnM o] (hp : H p = none) (r : Rp K (upd T.G p o) v d) : Q v (upd H p o) := KE.new h R hp v r.e
noncomputable def okB (p : Prop) : Bool := @decide p (Classical.propDecidable p)
theorem okB_iff {p : Prop} : okB p = true ↔ p := by
  unfold okB
  exact @decide_eq_true_iff p (Classical.propDecidable p)
noncomputable def mulB (i j : Int) : Bool := okB (((-(2 ^ 64) < i ∧ i < 2 ^ 64) ∨ (-(2 ^ 64) < j ∧ j < 2 ^ 64)) ∨ i.natAbs.log2 + j.natAbs.log2 < 1000000)
noncomputable def divB (j : Int) : Bool := okB (0 < j ∧ j.natAbs.log2 < 9000)
def int2 (g : Int → Int → R D) : D → D → R D
  | .int i, .int j => g i j
  | _, _ => .stuck
theorem ops_int {C : Int → Int → Prop} {g : Int → Int → V} {gd : Int → Int → D} {cb : Int → Int → Bool} (hc : ∀ i j, cb i j = true → C i j) (hg : ∀ i j G, Rp K G (g i j) (gd i j)) : OpS K (rI C g) (fun _ => int2 fun i j => if cb i j then .ok (gd i j) else .stuck) := by
  intro mg E T s H x y dx dy Q R rx ry h
  cases dx with
  | int i =>
    cases dy with
    | int j =>
      cases (show Rp K T.G x (.int i) from rx)
      cases (show Rp K T.G y (.int j) from ry)
      have h2 : KE K mg E T s H _ (if cb i j then .ok (gd i j) else .stuck) := h
      cases e : cb i j with
      | true =>
        rw [e] at h2
        exact ⟨i, j, rfl, rfl, hc i j e, fin (gd i j) h2 R (hg i j _)⟩
      | false => rw [e] at h2; exact h2.elim
    | _ => exact h.elim
  | _ => exact h.elim
theorem ops_int0 {g : Int → Int → V} {gd : Int → Int → D} (hg : ∀ i j G, Rp K G (g i j) (gd i j)) : OpS K (rI0 g) (fun _ => int2 fun i j => .ok (gd i j)) := by
  intro mg E T s H x y dx dy Q R rx ry h
  cases dx with
  | int i =>
    cases dy with
    | int j =>
      cases (show Rp K T.G x (.int i) from rx)
      cases (show Rp K T.G y (.int j) from ry)
      exact ⟨i, j, rfl, rfl, fin (gd i j) h R (hg i j _)⟩
    | _ => exact h.elim
  | _ => exact h.elim
theorem mul_ok {i j : Int} (h : mulB i j = true) : IntMulOk i j := by
  unfold mulB at h
  rcases okB_iff.mp h with h | h
  · exact CMul.ok h
  · exact CMulW.ok h
def CM (i j : Int) : Prop := IntMulOk i j
theorem op_mulA : OpR X (binaryOp .Mult) (rI CM fun i j => .int (i * j)) := opI fun _ _ _ _ _ _ _ hc q => mul_int q hc
def subI : Rho → D → D → R D := fun _ => int2 fun i j => .ok (.int (i - j))
noncomputable def mulI : Rho → D → D → R D := fun _ => int2 fun i j => if mulB i j then .ok (.int (i * j)) else .stuck
noncomputable def fdivI : Rho → D → D → R D := fun _ => int2 fun i j => if divB j then .ok (.int (i / j)) else .stuck
def modI : Rho → D → D → R D := fun _ => int2 fun i j => if decide (j ≠ 0) then .ok (.int (i.fmod j)) else .stuck
theorem ops_subI : OpS K (rI0 fun i j => .int (i - j)) subI := ops_int0 fun _ _ _ => .int _
theorem ops_mulI : OpS K (rI CM fun i j => .int (i * j)) mulI := ops_int (cb := mulB) (fun _ _ h => mul_ok h) fun _ _ _ => .int _
theorem ops_fdivI : OpS K (rI CDivW fun i j => .int (i / j)) fdivI := ops_int (cb := fun _ j => divB j) (fun _ _ h => okB_iff.mp h) fun _ _ _ => .int _
theorem ops_modI : OpS K (rI (fun _ j => j ≠ 0) fun i j => .int (i.fmod j)) modI := ops_int (cb := fun _ j => decide (j ≠ 0)) (fun _ _ h => of_decide_eq_true h) fun _ _ _ => .int _
def strLt (a b : Str) : Bool := decide (a.cps.toList < b.cps.toList)
def ltD : Rho → D → D → R D := fun _ x y => match x, y with
  | .int i, .int j => .ok (.bl (decide (i < j)))
  | .str i, .str j => .ok (.bl (strLt i j))
  | _, _ => .stuck
def leD : Rho → D → D → R D := fun _ x y => match x, y with
  | .int i, .int j => .ok (.bl (decide (i ≤ j)))
  | .str i, .str j => .ok (.bl (!strLt j i))
  | _, _ => .stuck
def gtI : Rho → D → D → R D := fun _ => int2 fun i j => .ok (.bl (decide (j < i)))
def geI : Rho → D → D → R D := fun _ => int2 fun i j => .ok (.bl (decide (j ≤ i)))
theorem ops_gtI : OpS K (rI0 fun i j => .bl (decide (j < i))) gtI := ops_int0 fun _ _ _ => .bl _
abbrev rLtD : R2 := fun x y H Q => rI0 (fun i j => .bl (decide (i < j))) x y H Q ∨ ∃ i j, x = .str i ∧ y = .str j ∧ Q (.bl (decide (i.cps.toList < j.cps.toList))) H
theorem op_ltD : OpR X (compareOp .Lt) rLtD := op_lt.or op_lt_str
theorem ops_ltD : OpS K rLtD ltD := by
  intro mg E T s H x y dx dy Q R rx ry h
  cases dx with
  | int i =>
    cases dy with
    | int j =>
      cases (show Rp K T.G x (.int i) from rx)
      cases (show Rp K T.G y (.int j) from ry)
      exact .inl ⟨i, j, rfl, rfl, fin (.bl (decide (i < j))) h R (Rp.bl _)⟩
    | _ => exact h.elim
  | str i =>
    cases dy with
    | str j =>
      cases (show Rp K T.G x (.str i) from rx)
      cases (show Rp K T.G y (.str j) from ry)
      exact .inr ⟨i, j, rfl, rfl, fin (.bl (strLt i j)) h R (Rp.bl _)⟩
    | _ => exact h.elim
  | _ => exact h.elim
abbrev rLeD : R2 := fun x y H Q => rI0 (fun i j => .bl (decide (i ≤ j))) x y H Q ∨ ∃ i j, x = .str i ∧ y = .str j ∧ Q (.bl (!decide (j.cps.toList < i.cps.toList))) H
theorem op_leD : OpR X (compareOp .LtE) rLeD := op_le.or op_le_str
theorem ops_leD : OpS K rLeD leD := by
  intro mg E T s H x y dx dy Q R rx ry h
  cases dx with
  | int i =>
    cases dy with
    | int j =>
      cases (show Rp K T.G x (.int i) from rx)
      cases (show Rp K T.G y (.int j) from ry)
      exact .inl ⟨i, j, rfl, rfl, fin (.bl (decide (i ≤ j))) h R (Rp.bl _)⟩
    | _ => exact h.elim
  | str i =>
    cases dy with
    | str j =>
      cases (show Rp K T.G x (.str i) from rx)
      cases (show Rp K T.G y (.str j) from ry)
      exact .inr ⟨i, j, rfl, rfl, fin (.bl (!strLt j i)) h R (Rp.bl _)⟩
    | _ => exact h.elim
  | _ => exact h.elim
def ixD (r : Rho) (x y : D) : R D := match y with
  | .int i => (match x with
    | .str z => if decide (z.length ≤ sizeLine) then (match atI z.cps.toList i with
      | some c => .ok (.str ⟨#[c]⟩)
      | none => .stuck) else .stuck
    | x => match viewD r x with
      | some ds => (match atI ds i with
        | some d => .ok d
        | none => .stuck)
      | none => .stuck)
  | _ => .stuck
theorem RpA.atI {G : Hp} {xs : List V} {ds : List D} {i : Int} {d : D} (r : RpA K G xs ds) (h : L2.atI ds i = some d) : ∃ v, L2.atI xs i = some v ∧ Rp K G v d := by
  unfold L2.atI at h ⊢
  rw [r.length]
  cases e : ixN ds.length i with
  | none => rw [e] at h; cases h
  | some j =>
    rw [e] at h
    exact r.get h
theorem ops_ixD : OpS K (rIx K) ixD := by
  intro mg E T s H x y dx dy Q R rx ry h
  cases dy with
  | int i =>
    cases (show Rp K T.G y (.int i) from ry)
    have seq : ∀ ds, viewD T.r dx = some ds → KE K mg E T s H (fun d G' H' => ∀ v, RpE K G' s v d → Q v H') (match L2.atI ds i with | some d => .ok d | none => .stuck) → rIx K x (.int i) H Q := fun ds hv hk => by
      obtain ⟨a, xs, rfl, hq, hr⟩ := view_ok R rx hv
      cases e : L2.atI ds i with
      | none => rw [e] at hk; exact hk.elim
      | some d =>
        rw [e] at hk
        obtain ⟨v, e1, e2⟩ := hr.atI e
        have fin1 : Q v H := fin d hk R e2
        rcases hq with hq | hq
        · exact .inl ⟨a, xs, i, v, rfl, rfl, hq, e1, fin1⟩
        · exact .inr (.inl ⟨a, xs, i, v, rfl, rfl, hq, e1, fin1⟩)
    cases dx with
    | str z =>
      cases (show Rp K T.G x (.str z) from rx)
      have h2 : KE K mg E T s H (fun d G' H' => ∀ v, RpE K G' s v d → Q v H') (if decide (z.length ≤ sizeLine) then (match L2.atI z.cps.toList i with | some c => .ok (.str ⟨#[c]⟩) | none => .stuck) else .stuck) := h
      cases e : decide (z.length ≤ sizeLine) with
      | false => rw [e] at h2; exact h2.elim
      | true =>
        rw [e] at h2
        have h3 : KE K mg E T s H (fun d G' H' => ∀ v, RpE K G' s v d → Q v H') (match L2.atI z.cps.toList i with | some c => .ok (.str ⟨#[c]⟩) | none => .stuck) := h2
        cases e2 : L2.atI z.cps.toList i with
        | none => rw [e2] at h3; exact h3.elim
        | some c =>
          rw [e2] at h3
          exact .inr (.inr ⟨z, i, c, rfl, rfl, of_decide_eq_true e, e2, fin (.str ⟨#[c]⟩) h3 R (Rp.str _)⟩)
    | tup ds => exact seq ds rfl h
    | lst ds => exact seq ds rfl h
    | scr ds => exact seq _ rfl h
    | own j =>
      have h2 : KE K mg E T s H (fun d G' H' => ∀ v, RpE K G' s v d → Q v H') (match viewD T.r (.own j) with | some ds => (match L2.atI ds i with | some d => .ok d | none => .stuck) | none => .stuck) := h
      cases e : viewD T.r (.own j) with
      | none => rw [e] at h2; exact h2.elim
      | some ds =>
        rw [e] at h2
        exact seq ds e h2
    | obj j =>
      have h2 : KE K mg E T s H (fun d G' H' => ∀ v, RpE K G' s v d → Q v H') (match viewD T.r (.obj j) with | some ds => (match L2.atI ds i with | some d => .ok d | none => .stuck) | none => .stuck) := h
      cases e : viewD T.r (.obj j) with
      | none => rw [e] at h2; exact h2.elim
      | some ds =>
        rw [e] at h2
        exact seq ds e h2
    | _ => exact h.elim
  | _ => exact h.elim
theorem ev_ix (ha : EV X E a fa) (hb : EV X E b fb) (hs : PlainIx b := by exact fun _ _ => rfl) : EV X E (.Subscript a b pos) (fBin ixD fa fb) :=
  pe_imp (pe_ix ix_seq ha hb hs) fun s H Q h => op_red ops_ixD h
end
end PL
end
section
namespace PL
open PySem PySem.Spec PyProof.Rows L2
mutual
def py : D → PyData
  | .non => .none
  | .bl b => .bool b
  | .int i => .int i
  | .str x => .str x
  | .tup ds => .tuple (pys ds)
  | .lst ds => .list (pys ds)
  | .scr ns => .list (ns.map .int)
  | .tpn ds => .tuple (pys ds)
  | .dic _ => .dict []
  | .own _ => .dict []
  | .exc _ => .dict []
  | .fn _ => .dict []
  | .obj _ => .dict []
  | .tpo _ => .dict []
def pys : List D → List PyData
  | [] => []
  | d :: ds => py d :: pys ds
end
def pyT (r : Rho) : D → PyData
  | .own i => match r[i]? with
    | some (.ol ds) => .list (pys ds)
    | _ => .dict []
  | .obj k => match (stOf r)[k]? with
    | some (.ls ds) => .list (pys ds)
    | _ => .dict []
  | d => py d
section
variable {K : PySem.W.Frag} {E : WX}
theorem dp_ints {H : Hp} : ∀ ns : List Int, DpAll K H (ns.map V.int) (ns.map PyData.int)
  | [] => .nil
  | n :: ns => .cons (.int n) (dp_ints ns)
mutual
theorem dp_of {G H : Hp} (e : Ex (um G) H) : ∀ (d : D) (v : V), (py d).canLay0 = true → Rp K G v d → Dp K H v (py d)
  | .non, _, _, .non => .non
  | .bl b, _, _, .bl _ => .bl b
  | .int i, _, _, .int _ => .int i
  | .str x, _, _, .str _ => .str x
  | .tup ds, _, c, .tup h r => .tup (ex_t e (um_t h)) (dp_all e ds _ c r)
  | .lst ds, _, c, .lst h r => .lst (SqL.of (e _ _ (um_of h rfl))) (dp_all e ds _ c r)
  | .scr ns, _, _, .scr h => .lst (Same.seq e (um_l h)) (dp_ints ns)
  | .tpn ds, _, c, .tpn h _ r => .tup (.inl (.inr ⟨_, e _ _ (um_of h rfl)⟩)) (dp_all e ds _ c r)
theorem dp_all {G H : Hp} (e : Ex (um G) H) : ∀ (d : List D) (v : List V), PyData.canLayAll0 (pys d) = true → RpA K G v d → DpAll K H v (pys d)
  | [], _, _, .nil => .nil
  | d :: ds, _, c, .cons h r => by
    have c2 : ((py d).canLay0 && PyData.canLayAll0 (pys ds)) = true := c
    rw [Bool.and_eq_true] at c2
    exact .cons (dp_of e d _ c2.1 h) (dp_all e ds _ c2.2 r)
end
theorem dpT_of {T : Stt} {s : St} {H : Hp} {v : V} {d : D} (R : Rl K T s H) (rv : RpE K T.G s v d) (c : SeqAt.shaped (pyT T.r d) = true) : Dp K H v (pyT T.r d) := by
  have c2 := SeqAt.canLay_of_shaped c
  cases d with
  | own i =>
    simp only [pyT] at c2 ⊢
    cases e : T.r[i]? with
    | none => rw [e] at c2; cases c2
    | some x =>
      rw [e] at c2
      cases x with
      | ol es =>
        obtain ⟨a, xs, e1, e2, e3⟩ := own_list R rv e
        subst e1
        exact .lst (SqL.of e2) (dp_all R.gh es _ c2 e3)
      | _ => cases c2
  | obj k =>
    simp only [pyT] at c2 ⊢
    cases e : (stOf T.r)[k]? with
    | none => rw [e] at c2; cases c2
    | some x =>
      rw [e] at c2
      cases x with
      | ls es =>
        cases (show RpO K T.G v (.obj k) from rv) with
        | pure h0 => cases h0
        | obj h1 =>
          obtain ⟨xs, e2, e3⟩ := obj_at R e h1
          exact .lst (SqL.of e2) (dp_all R.gh es _ c2 e3)
      | _ => cases c2
  | tpo k => cases c2
  | _ => exact dp_of R.gh _ v c2 rv
def eqD (r : Rho) (x y : D) : R D := if SeqAt.shaped (pyT r x) && SeqAt.shaped (pyT r y) then .ok (.bl (PyData.eqv (pyT r x) (pyT r y))) else .stuck
def neD (r : Rho) (x y : D) : R D := if SeqAt.shaped (pyT r x) && SeqAt.shaped (pyT r y) then .ok (.bl (!PyData.eqv (pyT r x) (pyT r y))) else .stuck
theorem ops_eqD : OpS K (rEqD K) eqD := by
  intro mg E T s H x y dx dy Q R rx ry h
  unfold eqD at h
  cases e : (SeqAt.shaped (pyT T.r dx) && SeqAt.shaped (pyT T.r dy)) with
  | false => rw [e] at h; exact h.elim
  | true =>
    rw [e] at h
    rw [Bool.and_eq_true] at e
    exact ⟨_, _, dpT_of R rx e.1, dpT_of R ry e.2, e.1, e.2, fin (.bl _) h R (Rp.bl _)⟩
theorem ops_neD : OpS K (rNeD K) neD := by
  intro mg E T s H x y dx dy Q R rx ry h
  unfold neD at h
  cases e : (SeqAt.shaped (pyT T.r dx) && SeqAt.shaped (pyT T.r dy)) with
  | false => rw [e] at h; exact h.elim
  | true =>
    rw [e] at h
    rw [Bool.and_eq_true] at e
    exact ⟨_, _, dpT_of R rx e.1, dpT_of R ry e.2, e.1, e.2, fin (.bl _) h R (Rp.bl _)⟩
def isNon : D → Bool
  | .non => true
  | _ => false
theorem isNon_ok {G : Hp} {v : V} {d : D} (r : Rp K G v d) : decide (v = .non) = isNon d := by
  cases r <;> rfl
def isD (_ : Rho) (x y : D) : R D := match x, y with
  | .own _, _ => .stuck
  | .tpo _, _ => .stuck
  | x, .non => .ok (.bl (isNon x))
  | .bl a, .bl b => .ok (.bl (decide (a = b)))
  | _, _ => .stuck
abbrev rIsD : R2 := fun x y H Q => (y = .non ∧ Q (.bl (decide (x = .non))) H) ∨ rIsB x y H Q
theorem op_isD {X : Cx} : OpR X (compareOp .Is) rIsD := op_isN.or op_isBl
theorem ops_isD : OpS K rIsD isD := by
  intro mg E T s H x y dx dy Q R rx ry h
  cases dy with
  | non =>
    cases (show Rp K T.G y .non from ry)
    have z : noOwn dx = true → KE K mg E T s H (fun d G' H' => ∀ v, RpE K G' s v d → Q v H') (.ok (.bl (isNon dx))) → rIsD x .non H Q := fun no h2 => by
      refine .inl ⟨rfl, ?_⟩
      rw [isNon_ok (RpE.im no rx)]
      exact fin (.bl _) h2 R (Rp.bl _)
    have zo : ∀ k, dx = .obj k → KE K mg E T s H (fun d G' H' => ∀ v, RpE K G' s v d → Q v H') (.ok (.bl (isNon dx))) → rIsD x .non H Q := fun k e h2 => by
      subst e
      cases (show RpO K T.G x (.obj k) from rx) with
      | pure h0 => cases h0
      | obj h1 => exact .inl ⟨rfl, fin (.bl _) h2 R (Rp.bl _)⟩
    cases dx <;> first | exact z rfl h | exact zo _ rfl h | exact h.elim
  | bl b =>
    cases (show Rp K T.G y (.bl b) from ry)
    cases dx with
    | bl a =>
      cases (show Rp K T.G x (.bl a) from rx)
      exact .inr ⟨a, b, rfl, rfl, fin (.bl _) h R (Rp.bl _)⟩
    | _ => exact h.elim
  | _ => cases dx <;> exact h.elim
def flatD : D → Bool
  | .non => true
  | .bl _ => true
  | .int _ => true
  | .str _ => true
  | _ => false
def fv : D → V
  | .bl b => .bl b
  | .int i => .int i
  | .str x => .str x
  | _ => .non
theorem fv_ok {G : Hp} {v : V} {d : D} (f : flatD d = true) (r : Rp K G v d) : v = fv d ∧ flatV v = true := by
  cases r <;> first | exact ⟨rfl, rfl⟩ | cases f
theorem fvs_ok {G : Hp} : ∀ {v : List V} {d : List D}, d.all flatD = true → RpA K G v d → v = d.map fv ∧ v.all flatV = true
  | _, _, _, .nil => ⟨rfl, rfl⟩
  | _, _, f, .cons h r => by
    rw [List.all_cons, Bool.and_eq_true] at f
    obtain ⟨e1, e2⟩ := fv_ok f.1 h
    obtain ⟨e3, e4⟩ := fvs_ok f.2 r
    refine ⟨by rw [List.map_cons, ← e1, ← e3], by rw [List.all_cons, e2, e4]; rfl⟩
def inB (x : D) (ds : List D) : Bool := inV (fv x) (ds.map fv)
def oneSign (x : Str) : Option Nat := match x.cps.toList with
  | [c] => some c
  | _ => none
theorem oneSign_ok {x : Str} {c : Nat} (h : oneSign x = some c) : x = ⟨#[c]⟩ := by
  unfold oneSign at h
  split at h
  · cases h
    rename_i e
    cases x with
    | mk cps =>
      have e2 : cps = [c].toArray := by rw [← e]
      exact congrArg Str.mk e2
  · cases h
def inG (neg : Bool) (r : Rho) (x y : D) : R D := match y with
  | .str z => (match x with
    | .str a => (match oneSign a with
      | some c => .ok (.bl (if neg then !decide (c ∈ z.cps.toList) else decide (c ∈ z.cps.toList)))
      | none => .stuck)
    | _ => .stuck)
  | y => match viewD r y with
    | some ds => if flatD x && ds.all flatD then .ok (.bl (if neg then !inB x ds else inB x ds)) else .stuck
    | none => .stuck
abbrev rInG (K : PySem.W.Frag) (neg : Bool) : R2 := fun x y H Q => rIn K neg x y H Q ∨ (∃ (c : Nat) (z : Str), x = .str ⟨#[c]⟩ ∧ y = .str z ∧ Q (.bl (if neg then !decide (c ∈ z.cps.toList) else decide (c ∈ z.cps.toList))) H)
theorem op_inG {X : Cx} : OpR X (compareOp .In) (rInG X.K false) := op_in_seq.or op_in_sign
theorem op_notInG {X : Cx} : OpR X (compareOp .NotIn) (rInG X.K true) := op_notIn_seq.or op_notIn_sign
theorem ops_inG {neg : Bool} : OpS K (rInG K neg) (inG neg) := by
  intro mg E T s H x y dx dy Q R rx ry h
  have seq : ∀ ds, viewD T.r dy = some ds → KE K mg E T s H (fun d G' H' => ∀ v, RpE K G' s v d → Q v H') (if flatD dx && ds.all flatD then .ok (.bl (if neg then !inB dx ds else inB dx ds)) else .stuck) → rInG K neg x y H Q := fun ds hv hk => by
    obtain ⟨a, xs, rfl, hq, hr⟩ := view_ok R ry hv
    cases e : (flatD dx && ds.all flatD) with
    | false => rw [e] at hk; exact hk.elim
    | true =>
      rw [e] at hk
      rw [Bool.and_eq_true] at e
      have no : noOwn dx = true := by cases dx <;> first | rfl | cases e.1
      obtain ⟨e1, e2⟩ := fv_ok e.1 (RpE.im no rx)
      obtain ⟨e3, e4⟩ := fvs_ok e.2 hr
      refine .inl ⟨a, xs, rfl, hq, e2, e4, ?_⟩
      rw [e1, e3]
      exact fin (.bl _) hk R (Rp.bl _)
  cases dy with
  | str z =>
    cases (show Rp K T.G y (.str z) from ry)
    cases dx with
    | str a =>
      cases (show Rp K T.G x (.str a) from rx)
      have h2 : KE K mg E T s H (fun d G' H' => ∀ v, RpE K G' s v d → Q v H') (match oneSign a with | some c => .ok (.bl (if neg then !decide (c ∈ z.cps.toList) else decide (c ∈ z.cps.toList))) | none => .stuck) := h
      cases e : oneSign a with
      | none => rw [e] at h2; exact h2.elim
      | some c =>
        rw [e] at h2
        refine .inr ⟨c, z, congrArg V.str (oneSign_ok e), rfl, ?_⟩
        exact fin (.bl _) h2 R (Rp.bl _)
    | _ => exact h.elim
  | tup ds => exact seq ds rfl h
  | lst ds => exact seq ds rfl h
  | scr ds => exact seq _ rfl h
  | own j =>
    have h2 : KE K mg E T s H (fun d G' H' => ∀ v, RpE K G' s v d → Q v H') (match viewD T.r (.own j) with | some ds => if flatD dx && ds.all flatD then .ok (.bl (if neg then !inB dx ds else inB dx ds)) else .stuck | none => .stuck) := h
    cases e : viewD T.r (.own j) with
    | none => rw [e] at h2; exact h2.elim
    | some ds =>
      rw [e] at h2
      exact seq ds e h2
  | obj j =>
    have h2 : KE K mg E T s H (fun d G' H' => ∀ v, RpE K G' s v d → Q v H') (match viewD T.r (.obj j) with | some ds => if flatD dx && ds.all flatD then .ok (.bl (if neg then !inB dx ds else inB dx ds)) else .stuck | none => .stuck) := h
    cases e : viewD T.r (.obj j) with
    | none => rw [e] at h2; exact h2.elim
    | some ds =>
      rw [e] at h2
      exact seq ds e h2
  | _ => exact h.elim
def catL (r : Rho) (x y : D) : R (List D) := match viewL r x, viewL r y with
  | some a, some b => if decide (a.length + b.length ≤ sizeLine) then .ok (a ++ b) else .stuck
  | _, _ => .stuck
def addD (r : Rho) (x y : D) : R D := match x, y with
  | .int i, .int j => .ok (.int (i + j))
  | .str a, .str b => if decide (a.length + b.length ≤ sizeLine) then .ok (.str (a ++ b)) else .stuck
  | .tup a, .tup b => if decide (a.length + b.length ≤ sizeLine) then .ok (.tup (a ++ b)) else .stuck
  | x, y => (catL r x y).bnd fun ds => .ok (.lst ds)
abbrev rAddD (K : PySem.W.Frag) : R2 := fun x y H Q => rI0 (fun i j => .int (i + j)) x y H Q ∨ (∃ i j, x = .str i ∧ y = .str j ∧ i.length + j.length ≤ sizeLine ∧ Q (.str (i ++ j)) H) ∨ rCatA K x y H Q ∨ rCat x y H Q
theorem op_addD {X : Cx} : OpR X (binaryOp .Add) (rAddD X.K) := op_add.or (op_add_str.or (op_catA.or op_cat))
theorem ops_addD : OpS K (rAddD K) addD := by
  intro mg E T s H x y dx dy Q R rx ry h
  have lists : KE K mg E T s H (fun d G' H' => ∀ v, RpE K G' s v d → Q v H') ((catL T.r dx dy).bnd fun ds => .ok (.lst ds)) → rAddD K x y H Q := fun hk => by
    unfold catL at hk
    cases e1 : viewL T.r dx with
    | none => rw [e1] at hk; exact hk.elim
    | some a =>
      cases e2 : viewL T.r dy with
      | none => rw [e1, e2] at hk; exact hk.elim
      | some b =>
        rw [e1, e2] at hk
        have hk2 : KE K mg E T s H (fun d G' H' => ∀ v, RpE K G' s v d → Q v H') ((if decide (a.length + b.length ≤ sizeLine) then PL.R.ok (a ++ b) else PL.R.stuck).bnd fun ds => .ok (.lst ds)) := hk
        cases e3 : decide (a.length + b.length ≤ sizeLine) with
        | false => rw [e3] at hk2; exact hk2.elim
        | true =>
          rw [e3] at hk2
          obtain ⟨p, xs, rfl, hp, hr⟩ := viewL_ok R rx e1
          obtain ⟨q, ys, rfl, hq, hs⟩ := viewL_ok R ry e2
          refine .inr (.inr (.inr ⟨p, q, xs, ys, rfl, rfl, hp, hq, by rw [hr.length, hs.length]; exact of_decide_eq_true e3, fun t ht => ?_⟩))
          exact finNew (.lst (a ++ b)) hk2 R ht (Rp.lst upd_same ((hr.append hs).mono (ex_new (R.gf _ ht))))
  cases dx with
  | int i =>
    cases dy with
    | int j =>
      cases (show Rp K T.G x (.int i) from rx)
      cases (show Rp K T.G y (.int j) from ry)
      exact .inl ⟨i, j, rfl, rfl, fin (.int _) h R (Rp.int _)⟩
    | _ => exact lists h
  | str i =>
    cases dy with
    | str j =>
      cases (show Rp K T.G x (.str i) from rx)
      cases (show Rp K T.G y (.str j) from ry)
      have h2 : KE K mg E T s H (fun d G' H' => ∀ v, RpE K G' s v d → Q v H') (if decide (i.length + j.length ≤ sizeLine) then .ok (.str (i ++ j)) else .stuck) := h
      cases e3 : decide (i.length + j.length ≤ sizeLine) with
      | false => rw [e3] at h2; exact h2.elim
      | true =>
        rw [e3] at h2
        exact .inr (.inl ⟨i, j, rfl, rfl, of_decide_eq_true e3, fin (.str _) h2 R (Rp.str _)⟩)
    | _ => exact lists h
  | tup a =>
    cases dy with
    | tup b =>
      obtain ⟨p, xs, rfl, hp0, hp, hr⟩ := tup_ok R rx
      obtain ⟨q, ys, rfl, hq0, hq, hs⟩ := tup_ok R ry
      have h2 : KE K mg E T s H (fun d G' H' => ∀ v, RpE K G' s v d → Q v H') (if decide (a.length + b.length ≤ sizeLine) then .ok (.tup (a ++ b)) else .stuck) := h
      cases e3 : decide (a.length + b.length ≤ sizeLine) with
      | false => rw [e3] at h2; exact h2.elim
      | true =>
        rw [e3] at h2
        refine .inr (.inr (.inl ⟨p, q, xs, ys, rfl, rfl, hp, hq, by rw [hr.length, hs.length]; exact of_decide_eq_true e3, fun z => ?_, fun _ z => ?_, fun _ _ t ht => ?_⟩))
        · subst z
          cases hr
          exact fin (.tup b) h2 R (Rp.tup hq0 hs)
        · subst z
          cases hs
          rw [List.append_nil] at h2
          exact fin (.tup a) h2 R (Rp.tup hp0 hr)
        · exact finNew (.tup (a ++ b)) h2 R ht (Rp.tup (SqT.of upd_same) ((hr.append hs).mono (ex_new (R.gf _ ht))))
    | _ => exact lists h
  | _ => exact lists h
inductive RpL (K : PySem.W.Frag) (G : Hp) (s : St) : List V → List D → Prop
  | nil : RpL K G s [] []
  | cons {v : V} {vs : List V} {d : D} {ds : List D} : RpE K G s v d → RpL K G s vs ds → RpL K G s (v :: vs) (d :: ds)
theorem RpL.mono {G G' : Hp} {s : St} (e : Ex G G') : ∀ {v : List V} {d : List D}, RpL K G s v d → RpL K G' s v d
  | _, _, .nil => .nil
  | _, _, .cons h r => .cons (h.mono e) (r.mono e)
def tB (K : PySem.W.Frag) (mg : Str → Option Value) (E : WX) (f : Rho → R (List D)) : TA := fun s H Q => ∃ T, Rl K T s H ∧ KE K mg E T s H (fun ds G' H' => ∀ vs, RpL K G' s vs ds → Q vs H') (f T.r)
def EB (X : Cx) (E : WX) (e : List Expr) (f : Rho → R (List D)) : Prop := PA X e (tB X.K X.mg E f)
def fConsB (f : Rho → R D) (fs : Rho → R (List D)) (r : Rho) : R (List D) := (f r).bnd fun d => (fs r).bnd fun ds => .ok (d :: ds)
end
section
variable {X : Cx} {E : WX} {a b c : Expr} {fa fb fc : Rho → R D} {pos p : Pos} {es : List Expr} {fs : Rho → R (List D)} {x : Str} {e : Expr}
theorem eb_nil : EB X E [] fNil := pa_imp pa_nil fun s H Q ⟨T, R, h⟩ => h.here R [] .nil
theorem eb_cons (ha : EV X E a fa) (hr : EB X E es fs) (hs : starEach (a :: es) X.env = (false, eval a X.env) :: starEach es X.env := by rfl) : EB X E (a :: es) (fConsB fa fs) :=
  pa_imp (pa_cons ha hr hs) fun s H Q ⟨T, R, h⟩ => ⟨T, R, KE.bnd h fun d G1 H1 _ eg eh R1 h1 v rv =>
    ⟨{ T with G := G1 }, R1, KE.bnd (show KE X.K X.mg E { T with G := G1 } s H1 _ ((fs T.r).bnd fun ds => .ok (d :: ds)) from h1) fun ds G2 H2 _ eg2 eh2 R2 h2 vs rvs => KE.here h2 R2 _ (.cons (rv.mono eg2) rvs)⟩⟩
def CallS (K : PySem.W.Frag) (r : List V → Hp → VK → Prop) (g : Rho → List D → R D) : Prop := ∀ (mg : Str → Option Value) (E : WX) (T : Stt) (s : St) (H : Hp) (xs : List V) (ds : List D) (Q : VK), Rl K T s H → RpL K T.G s xs ds →
  KE K mg E T s H (fun d G' H' => ∀ v, RpE K G' s v d → Q v H') (g T.r ds) → r xs H Q
def fCallB {α : Type} (g : Rho → List D → R α) (fs : Rho → R (List D)) (r : Rho) : R α := (fs r).bnd (g r)
theorem ev_callB {id : String} {r : List V → Hp → VK → Prop} {g : Rho → List D → R D} (hc : CallR X (.builtin id) r) (hs : CallS X.K r g) (hg : Gl X x) (hm : X.mg x = none) (hv : bootBuiltins x = some (.builtin id)) (ha : EB X E (e :: es) fs) (hn : x ≠ "__name__" := by decide) (hdb : (x == ("__debug__" : Str)) = false := by decide)
    (he : starEach (e :: es) X.env = (false, eval e X.env) :: starEach es X.env := by rfl) (hpl : (backTo pos (starEach es X.env)).any (·.1) = false := by rfl) : EV X E (.Call (.Name x p) (e :: es) [] pos) (fCallB g fs) :=
  pe_imp (pe_callB hc hg hm hv ha hn hdb he hpl) fun s H Q ⟨T, R, h⟩ => ⟨T, R, KE.bnd h fun ds G1 H1 _ eg eh R1 h1 vs rvs => hs X.mg E { T with G := G1 } s H1 vs ds Q R1 rvs h1⟩
theorem ev_callTy {id : String} {r : List V → Hp → VK → Prop} {g : Rho → List D → R D} (hc : CallR X (.type id) r) (hs : CallS X.K r g) (hg : Gl X x) (hm : X.mg x = none) (hv : bootBuiltins x = some (.type id)) (ha : EB X E (e :: es) fs) (hn : x ≠ "__name__" := by decide) (hdb : (x == ("__debug__" : Str)) = false := by decide)
    (he : starEach (e :: es) X.env = (false, eval e X.env) :: starEach es X.env := by rfl) (hpl : (backTo pos (starEach es X.env)).any (·.1) = false := by rfl) : EV X E (.Call (.Name x p) (e :: es) [] pos) (fCallB g fs) :=
  pe_imp (pe_callTy hc hg hm hv ha hn hdb he hpl) fun s H Q ⟨T, R, h⟩ => ⟨T, R, KE.bnd h fun ds G1 H1 _ eg eh R1 h1 vs rvs => hs X.mg E { T with G := G1 } s H1 vs ds Q R1 rvs h1⟩
end
section
variable {K : PySem.W.Frag}
def lenD (r : Rho) : List D → R D
  | [.str z] => if decide (z.length ≤ sizeLine) then .ok (.int z.length) else .stuck
  | [d] => match viewD r d with
    | some ds => .ok (.int ds.length)
    | none => .stuck
  | _ => .stuck
abbrev rLenD (K : PySem.W.Frag) : List V → Hp → VK → Prop := fun xs H Q => (∃ p ys, xs = [.ref p] ∧ (SqL K H p ys ∨ SqT K H p ys) ∧ Q (.int ys.length) H) ∨ ∃ z, xs = [.str z] ∧ z.length ≤ sizeLine ∧ Q (.int z.length) H
theorem call_lenD {X : Cx} : CallR X (.builtin "len") (rLenD X.K) := call_len_seq.or call_len_str
theorem cs_lenD : CallS K (rLenD K) lenD := by
  intro mg E T s H xs ds Q R rs h
  cases rs with
  | nil => exact h.elim
  | @cons v vs d ds rv rr =>
    cases rr with
    | cons _ _ => cases d <;> exact h.elim
    | nil =>
      have seq : ∀ es, viewD T.r d = some es → KE K mg E T s H (fun d G' H' => ∀ v, RpE K G' s v d → Q v H') (.ok (.int es.length)) → rLenD K [v] H Q := fun es hv hk => by
        obtain ⟨a, xs, rfl, hq, hr⟩ := view_ok R rv hv
        refine .inl ⟨a, xs, rfl, hq, ?_⟩
        rw [hr.length]
        exact fin (.int _) hk R (Rp.int _)
      cases d with
      | str z =>
        cases (show Rp K T.G v (.str z) from rv)
        have h2 : KE K mg E T s H (fun d G' H' => ∀ v, RpE K G' s v d → Q v H') (if decide (z.length ≤ sizeLine) then .ok (.int z.length) else .stuck) := h
        cases e : decide (z.length ≤ sizeLine) with
        | false => rw [e] at h2; exact h2.elim
        | true =>
          rw [e] at h2
          exact .inr ⟨z, rfl, of_decide_eq_true e, fin (.int _) h2 R (Rp.int _)⟩
      | tup ds => exact seq ds rfl h
      | lst ds => exact seq ds rfl h
      | scr ds => exact seq _ rfl h
      | own j =>
        have h2 : KE K mg E T s H (fun d G' H' => ∀ v, RpE K G' s v d → Q v H') (match viewD T.r (.own j) with | some ds => .ok (.int ds.length) | none => .stuck) := h
        cases e : viewD T.r (.own j) with
        | none => rw [e] at h2; exact h2.elim
        | some ds =>
          rw [e] at h2
          exact seq ds e h2
      | obj j =>
        have h2 : KE K mg E T s H (fun d G' H' => ∀ v, RpE K G' s v d → Q v H') (match viewD T.r (.obj j) with | some ds => .ok (.int ds.length) | none => .stuck) := h
        cases e : viewD T.r (.obj j) with
        | none => rw [e] at h2; exact h2.elim
        | some ds =>
          rw [e] at h2
          exact seq ds e h2
      | _ => exact h.elim
def absD (_ : Rho) : List D → R D
  | [.int i] => .ok (.int (if i < 0 then -i else i))
  | _ => .stuck
theorem cs_absD : CallS K (fun xs H Q => ∃ i, xs = [.int i] ∧ Q (.int (if i < 0 then -i else i)) H) absD := by
  intro mg E T s H xs ds Q R rs h
  cases rs with
  | nil => exact h.elim
  | @cons v vs d ds rv rr =>
    cases rr with
    | cons _ _ => cases d <;> exact h.elim
    | nil =>
      cases d with
      | int i =>
        cases (show Rp K T.G v (.int i) from rv)
        exact ⟨i, rfl, fin (.int _) h R (Rp.int _)⟩
      | _ => exact h.elim
def tupleD (r : Rho) : List D → R D
  | [.tup ds] => .ok (.tup ds)
  | [d] => match viewL r d with
    | some ds => .ok (.tup ds)
    | none => .stuck
  | _ => .stuck
theorem cs_tupleD : CallS K (fun xs H Q => ∃ p ys, xs = [.ref p] ∧ ((SqL K H p ys ∧ ∀ l, H l = none → Q (.ref l) (upd H l (.tup ys))) ∨ (SqT K H p ys ∧ Q (.ref p) H))) tupleD := by
  intro mg E T s H xs ds Q R rs h
  cases rs with
  | nil => exact h.elim
  | @cons v vs d ds rv rr =>
    cases rr with
    | cons _ _ => cases d <;> exact h.elim
    | nil =>
      have seq : KE K mg E T s H (fun d G' H' => ∀ v, RpE K G' s v d → Q v H') (match viewL T.r d with | some ds => .ok (.tup ds) | none => .stuck) → ∃ p ys, [v] = [V.ref p] ∧ ((SqL K H p ys ∧ ∀ l, H l = none → Q (.ref l) (upd H l (.tup ys))) ∨ (SqT K H p ys ∧ Q (.ref p) H)) := fun hk => by
        cases e : viewL T.r d with
        | none => rw [e] at hk; exact hk.elim
        | some es =>
          rw [e] at hk
          obtain ⟨a, xs, rfl, hq, hr⟩ := viewL_ok R rv e
          exact ⟨a, xs, rfl, .inl ⟨SqL.of hq, fun l hl => finNew (.tup es) hk R hl (Rp.tup (SqT.of upd_same) (hr.mono (ex_new (R.gf _ hl))))⟩⟩
      cases d with
      | tup es =>
        obtain ⟨p, xs, rfl, hp0, hp, hr⟩ := tup_ok R rv
        exact ⟨p, xs, rfl, .inr ⟨hp, fin (.tup es) h R (Rp.tup hp0 hr)⟩⟩
      | _ => first | exact seq h | exact h.elim
def listD (r : Rho) : List D → R (List D)
  | [d] => match viewD r d with
    | some ds => .ok ds
    | none => .stuck
  | _ => .stuck
def boolsOf : List D → Option (List Bool)
  | [] => some []
  | .bl b :: ds => (boolsOf ds).map (b :: ·)
  | _ => none
theorem boolsOf_ok {G : Hp} : ∀ {v : List V} {d : List D} {bs : List Bool}, boolsOf d = some bs → RpA K G v d → v = bs.map V.bl
  | _, [], bs, h, .nil => by cases h; rfl
  | _, d :: ds, bs, h, .cons h1 r => by
    cases d with
    | bl b =>
      have h2 : (boolsOf ds).map (b :: ·) = some bs := h
      cases e : boolsOf ds with
      | none => rw [e] at h2; cases h2
      | some cs =>
        rw [e] at h2
        cases h2
        cases h1
        rw [boolsOf_ok e r]
        rfl
    | _ => cases h
def allD (g : List Bool → Bool) (r : Rho) : List D → R D
  | [d] => match viewL r d with
    | some ds => (match boolsOf ds with
      | some bs => .ok (.bl (g bs))
      | none => .stuck)
    | none => .stuck
  | _ => .stuck
theorem all_core {mg : Str → Option Value} {E : WX} {g : List Bool → Bool} {T : Stt} {s : St} {H : Hp} {xs : List V} {ds : List D} {Q : VK} (R : Rl K T s H) (rs : RpL K T.G s xs ds)
    (h : KE K mg E T s H (fun d G' H' => ∀ v, RpE K G' s v d → Q v H') (allD g T.r ds)) : ∃ (a : Addr) (bs : List Bool), xs = [.ref a] ∧ SqL K H a (bs.map V.bl) ∧ Q (.bl (g bs)) H := by
  cases rs with
  | nil => exact h.elim
  | @cons v vs d ds rv rr =>
    cases rr with
    | cons _ _ => exact h.elim
    | nil =>
      simp only [allD] at h
      cases e : viewL T.r d with
      | none => rw [e] at h; exact h.elim
      | some es =>
        rw [e] at h
        simp only at h
        cases e2 : boolsOf es with
        | none => rw [e2] at h; exact h.elim
        | some bs =>
          rw [e2] at h
          obtain ⟨a, xs, rfl, hq, hr⟩ := viewL_ok R rv e
          have ex := boolsOf_ok e2 hr
          subst ex
          exact ⟨a, bs, rfl, SqL.of hq, fin (.bl _) h R (Rp.bl _)⟩
theorem cs_all : CallS K (rAll K) (allD fun bs => bs.all id) := fun mg E T s H xs ds Q R rs h => all_core R rs h
theorem cs_any : CallS K (rAny K) (allD fun bs => bs.any id) := fun mg E T s H xs ds Q R rs h => all_core R rs h
end
end PL
end
section
namespace PL
open PySem PySem.Spec PyProof.Rows L2
def isTy : D → String → Bool
  | .non, _ => false
  | .bl _, t => t == "bool" || t == "int"
  | .int _, t => t == "int"
  | .str _, t => t == "str"
  | .tup _, t => t == "tuple"
  | .tpn _, t => t == "tuple"
  | .lst _, t => t == "list"
  | .scr _, t => t == "list"
  | .own _, t => t == "list"
  | .dic _, t => t == "dict"
  | _, _ => false
def tyN : D → String
  | .non => "NoneType"
  | .bl _ => "bool"
  | .int _ => "int"
  | .str _ => "str"
  | .tup _ => "tuple"
  | .tpn _ => "tuple"
  | .lst _ => "list"
  | .scr _ => "list"
  | .own _ => "list"
  | .dic _ => "dict"
  | _ => "NoneType"
def tys : List String := ["int", "bool", "str", "tuple", "list"]
theorem kit_all (t : String) (h : t ∈ tys) (d : D) : kitB (tyN d) t = some (isTy d t) := by
  have z : ∀ n ∈ ["NoneType", "bool", "int", "str", "tuple", "list", "dict"], ∀ t ∈ tys, kitB n t = some (match n with
      | "bool" => t == "bool" || t == "int"
      | "int" => t == "int"
      | "str" => t == "str"
      | "tuple" => t == "tuple"
      | "list" => t == "list"
      | "dict" => t == "dict"
      | _ => false) := by decide +kernel
  cases d
  · exact z "NoneType" (by decide) t h
  · exact z "bool" (by decide) t h
  · exact z "int" (by decide) t h
  · exact z "str" (by decide) t h
  · exact z "tuple" (by decide) t h
  · exact z "list" (by decide) t h
  · exact z "dict" (by decide) t h
  · exact z "list" (by decide) t h
  · exact z "list" (by decide) t h
  · exact z "tuple" (by decide) t h
  · exact z "NoneType" (by decide) t h
  · exact z "NoneType" (by decide) t h
  · exact z "NoneType" (by decide) t h
  · exact z "NoneType" (by decide) t h
def basicD : D → Bool
  | .exc _ => false
  | .fn _ => false
  | .obj _ => false
  | .tpo _ => false
  | _ => true
section
variable {K : PySem.W.Frag} {E : WX}
theorem tyx_of {T : Stt} {s : St} {H : Hp} {v : V} {d : D} (R : Rl K T s H) (rv : RpE K T.G s v d) (hb : basicD d = true) (ow : ∀ i, d = .own i → ∃ ds, T.r[i]? = some (.ol ds)) : TyX K H v (.type (tyN d)) := by
  have gl : ∀ {a : Addr} {xs : List V}, SqL K H a xs → TyX K H (.ref a) (.type "list") := fun {a xs} h => by
    rcases h with (h | ⟨o, h⟩) | ⟨o, its, n, h, hc, _⟩
    · exact .base (.lst h)
    · exact .base (.frz h)
    · exact .kList h hc
  cases d with
  | own i =>
    obtain ⟨ds, e⟩ := ow i rfl
    obtain ⟨a, xs, e1, e2, e3⟩ := own_list R rv e
    subst e1
    exact gl (SqL.of e2)
  | non => cases (show Rp K T.G v .non from rv); exact .base .non
  | bl b => cases (show Rp K T.G v (.bl b) from rv); exact .base (.bl _)
  | int b => cases (show Rp K T.G v (.int b) from rv); exact .base (.int _)
  | str b => cases (show Rp K T.G v (.str b) from rv); exact .base (.str _)
  | tup b =>
    cases (show Rp K T.G v (.tup b) from rv) with
    | tup h1 h2 =>
      have h3 := R.sqt h1
      rcases h3 with (h | ⟨o, h⟩) | ⟨o, its, n, h, hc, _⟩
      · exact .base (.tup h)
      · exact .fTuple h
      · exact .kTuple h hc
  | lst b =>
    cases (show Rp K T.G v (.lst b) from rv) with
    | lst h1 h2 => exact gl (SqL.of (R.at h1 rfl))
  | tpn b =>
    cases (show Rp K T.G v (.tpn b) from rv) with
    | tpn h1 h2 h3 => exact .fTuple (R.at h1 rfl)
  | scr b =>
    cases (show Rp K T.G v (.scr b) from rv) with
    | scr h1 => exact gl (R.sql h1)
  | dic b =>
    cases (show Rp K T.G v (.dic b) from rv) with
    | dic h1 h2 => exact .fDict (R.at h1 rfl)
  | _ => cases hb
def ownL (r : Rho) : D → Bool
  | .own i => match r[i]? with
    | some (.ol _) => true
    | _ => false
  | .exc _ => false
  | .fn _ => false
  | .obj _ => false
  | .tpo _ => false
  | _ => true
theorem ownL_basic {r : Rho} {d : D} (h : ownL r d = true) : basicD d = true := by
  cases d <;> first | rfl | cases h
theorem ownL_ok {r : Rho} {d : D} (h : ownL r d = true) : ∀ i, d = .own i → ∃ ds, r[i]? = some (.ol ds) := fun i e => by
  subst e
  simp only [ownL] at h
  cases q : r[i]? with
  | none => rw [q] at h; cases h
  | some x =>
    rw [q] at h
    cases x with
    | ol ds => exact ⟨ds, rfl⟩
    | _ => cases h
end
def fIsi (ts : List String) (fa : Rho → R D) (r : Rho) : R D := (fa r).bnd fun d => if ownL r d then .ok (.bl (ts.any fun t => isTy d t)) else .stuck
section
variable {X : Cx} {E : WX} {a b c : Expr} {fa fb fc : Rho → R D} {pos p p2 p3 p4 : Pos} {es : List Expr} {fs : Rho → R (List D)} {x tn tn2 : Str} {e : Expr}
theorem ev_isi (T : String) (ht : T ∈ tys) (hg : Gl X "isinstance") (hm : X.mg "isinstance" = none) (hgT : Gl X tn) (hmT : X.mg tn = none) (hv : bootBuiltins tn = some (.type T)) (ha : EV X E a fa) (hn : tn ≠ "__name__" := by decide) (hd : (tn == ("__debug__" : Str)) = false := by decide)
    (hs : starEach [a, .Name tn p2] X.env = (false, eval a X.env) :: starEach [.Name tn p2] X.env := by rfl) : EV X E (.Call (.Name "isinstance" p) [a, .Name tn p2] [] pos) (fIsi [T] fa) := by
  refine pe_imp (pe_callB call_isi hg hm (by decide +kernel) (pa_cons ha (pa_cons (pe_bltn (v := .ty T) hgT hmT hv rfl hn hd) pa_nil) hs) (he := hs)) fun s H Q ⟨T1, R, h⟩ => ⟨T1, R, KE.bnd h fun d G1 H1 _ eg eh R1 h1 v rv => ?_⟩
  cases e : ownL T1.r d with
  | false => rw [e] at h1; exact h1.elim
  | true =>
    rw [e] at h1
    refine ⟨v, .ty T, _, .type T, isTy d T, rfl, .ty T, tyx_of (T := { T1 with G := G1 }) R1 rv (ownL_basic e) (ownL_ok e), kit_ty (kit_all T ht d), ?_⟩
    have e2 : ([T].any fun t => isTy d t) = isTy d T := by simp
    rw [← e2]
    exact fin (T := { T1 with G := G1 }) (.bl _) h1 R1 (Rp.bl _)
theorem ev_isi2 (T T2 : String) (ht : T ∈ tys) (ht2 : T2 ∈ tys) (hg : Gl X "isinstance") (hm : X.mg "isinstance" = none) (hgT : Gl X tn) (hmT : X.mg tn = none) (hv : bootBuiltins tn = some (.type T)) (hgT2 : Gl X tn2) (hmT2 : X.mg tn2 = none) (hv2 : bootBuiltins tn2 = some (.type T2)) (ha : EV X E a fa) (hn : tn ≠ "__name__" := by decide) (hd : (tn == ("__debug__" : Str)) = false := by decide)
    (hn2 : tn2 ≠ "__name__" := by decide) (hd2 : (tn2 == ("__debug__" : Str)) = false := by decide) {x1 : Nat}
    (hs : starEach [a, .Tuple [.Name tn p2, .Name tn2 p3] x1 p4] X.env = (false, eval a X.env) :: starEach [.Tuple [.Name tn p2, .Name tn2 p3] x1 p4] X.env := by rfl) : EV X E (.Call (.Name "isinstance" p) [a, .Tuple [.Name tn p2, .Name tn2 p3] x1 p4] [] pos) (fIsi [T, T2] fa) := by
  refine pe_imp (pe_callB call_isiT hg hm (by decide +kernel) (pa_cons ha (pa_cons (pe_tup (pa_cons (pe_bltn (v := .ty T) hgT hmT hv rfl hn hd) (pa_cons (pe_bltn (v := .ty T2) hgT2 hmT2 hv2 rfl hn2 hd2) pa_nil))) pa_nil) hs) (he := hs)) fun s H Q ⟨T1, R, h⟩ => ⟨T1, R, KE.bnd h fun d G1 H1 _ eg eh R1 h1 v rv => ?_⟩
  cases e : ownL T1.r d with
  | false => rw [e] at h1; exact h1.elim
  | true =>
    rw [e] at h1
    refine ⟨by show 2 ≤ sizeLine; decide, fun t ht3 => ?_⟩
    have R2 : Rl X.K { T1 with G := G1 } s (upd H1 t (.tup [.ty T, .ty T2])) := Rel.lay R1 ht3
    refine ⟨v, t, [.ty T, .ty T2], _, [.type T, .type T2], ([T, T2].any fun t => isTy d t), rfl, upd_same, .cons (.ty T) (.cons (.ty T2) .nil), tyx_of (T := { T1 with G := G1 }) R2 rv (ownL_basic e) (ownL_ok e), ?_, ?_⟩
    · have k1 := kit_ty (K := X.K) (kit_all T ht d)
      have k2 := kit_ty (K := X.K) (kit_all T2 ht2 d)
      unfold PySem.W.kitAny
      rw [k1]
      cases q : isTy d T with
      | true => simp [q]
      | false =>
        show PySem.W.kitAny X.K _ [Value.type T2] = _
        unfold PySem.W.kitAny
        rw [k2]
        cases q2 : isTy d T2 with
        | true => simp [q, q2]
        | false => simp [q, q2, PySem.W.kitAny]
    · have h2 : KE X.K X.mg E { T1 with G := G1 } s H1 (fun d G' H' => ∀ v, RpE X.K G' s v d → Q v H') (.ok (.bl ([T, T2].any fun t => isTy d t))) := h1
      exact h2 G1 _ (Same.refl _) (ex_new ht3) (Nw.refl _ _) R2 _ (Rp.bl _)
def tO (K : PySem.W.Frag) (mg : Str → Option Value) (E : WX) (f : Rho → R (Option Int)) : TO := fun s H Q => ∃ T, Rl K T s H ∧ KE K mg E T s H (fun o _ H' => Q o H') (f T.r)
theorem po_imp {X : Cx} {e : Option Expr} {t t' : TO} (h : PO X e t) (i : ∀ s H Q, t' s H Q → t s H Q) : PO X e t' := ⟨fun pins s σ H Q I q => h.run pins s σ H Q I (i _ _ _ q)⟩
def EO (X : Cx) (E : WX) (e : Option Expr) (f : Rho → R (Option Int)) : Prop := PO X e (tO X.K X.mg E f)
def intOf : D → R (Option Int)
  | .int i => .ok (some i)
  | _ => .stuck
theorem eo_none : EO X E none (fun _ => .ok none) := po_imp po_none fun s H Q ⟨T, R, h⟩ => KE.here h R
theorem eo_some (ha : EV X E a fa) : EO X E (some a) (fun r => (fa r).bnd intOf) :=
  po_imp (po_some ha) fun s H Q ⟨T, R, h⟩ => ⟨T, R, KE.bnd h fun d G1 H1 _ eg eh R1 h1 v rv => by
    cases d with
    | int i =>
      cases (show Rp X.K G1 v (.int i) from rv)
      exact ⟨i, rfl, KE.here (T := { T with G := G1 }) h1 R1⟩
    | _ => exact h1.elim⟩
def cut {α : Type} (xs : List α) (lo hi : Option Int) : List α := (xs.drop (HT.sIx xs.length 0 lo)).take (HT.sIx xs.length xs.length hi - HT.sIx xs.length 0 lo)
theorem RpA.cut {K : PySem.W.Frag} {G : Hp} {xs : List V} {ds : List D} (r : RpA K G xs ds) (lo hi : Option Int) : RpA K G (cutV xs lo hi) (cut ds lo hi) := by
  unfold cutV PL.cut
  rw [r.length]
  exact (r.drop _).take _
def slD (r : Rho) (x : D) (lo hi : Option Int) : R D := match x with
  | .tup ds => .ok (.tup (cut ds lo hi))
  | .str z => if decide (z.length ≤ sizeLine) then .ok (.str (cutS z lo hi)) else .stuck
  | x => match viewL r x with
    | some ds => .ok (.lst (cut ds lo hi))
    | none => .stuck
abbrev rSlD (K : PySem.W.Frag) : V → Option Int → Option Int → Hp → VK → Prop := fun x lo hi H Q => rSlA K x lo hi H Q ∨ rSlS x lo hi H Q ∨ rSlL K x lo hi H Q
theorem sl_D : SlR X (rSlD X.K) := sl_tupA.or (sl_str.or sl_list)
theorem cut_whole {α : Type} {xs : List α} {lo hi : Option Int} (h : HT.sIx xs.length 0 lo = 0 ∧ HT.sIx xs.length xs.length hi = xs.length) : cut xs lo hi = xs := by
  unfold cut
  rw [h.1, h.2]
  simp
theorem slS_ok {K : PySem.W.Frag} {mg : Str → Option Value} {T : Stt} {s : St} {H : Hp} {x : V} {dx : D} {lo hi : Option Int} {Q : VK} (R : Rl K T s H) (rx : RpE K T.G s x dx) (h : KE K mg E T s H (fun d G' H' => ∀ v, RpE K G' s v d → Q v H') (slD T.r dx lo hi)) : rSlD K x lo hi H Q := by
  have lists : KE K mg E T s H (fun d G' H' => ∀ v, RpE K G' s v d → Q v H') (match viewL T.r dx with | some ds => .ok (.lst (cut ds lo hi)) | none => .stuck) → rSlD K x lo hi H Q := fun hk => by
    cases e : viewL T.r dx with
    | none => rw [e] at hk; exact hk.elim
    | some es =>
      rw [e] at hk
      obtain ⟨a, xs, rfl, hq, hr⟩ := viewL_ok R rx e
      exact .inr (.inr ⟨a, xs, rfl, SqL.of hq, fun l hl => finNew (.lst _) hk R hl (Rp.lst upd_same ((hr.cut lo hi).mono (ex_new (R.gf _ hl))))⟩)
  cases dx with
  | tup ds =>
    obtain ⟨p, xs, rfl, hp0, hp, hr⟩ := tup_ok R rx
    refine .inl ⟨p, xs, rfl, hp, fun z => ?_, fun z t ht => ?_⟩
    · rw [hr.length] at z
      have h2 : KE K mg E T s H (fun d G' H' => ∀ v, RpE K G' s v d → Q v H') (.ok (.tup (cut ds lo hi))) := h
      rw [cut_whole z] at h2
      exact fin (.tup ds) h2 R (Rp.tup hp0 hr)
    · exact finNew (.tup _) h R ht (Rp.tup (SqT.of upd_same) ((hr.cut lo hi).mono (ex_new (R.gf _ ht))))
  | str z =>
    cases (show Rp K T.G x (.str z) from rx)
    have h2 : KE K mg E T s H (fun d G' H' => ∀ v, RpE K G' s v d → Q v H') (if decide (z.length ≤ sizeLine) then .ok (.str (cutS z lo hi)) else .stuck) := h
    cases e : decide (z.length ≤ sizeLine) with
    | false => rw [e] at h2; exact h2.elim
    | true =>
      rw [e] at h2
      exact .inr (.inl ⟨z, rfl, of_decide_eq_true e, fin (.str _) h2 R (Rp.str _)⟩)
  | _ => exact lists h
def fSl (fa : Rho → R D) (fl fh : Rho → R (Option Int)) (r : Rho) : R D := (fa r).bnd fun x => (fl r).bnd fun lo => (fh r).bnd fun hi => slD r x lo hi
theorem ev_slice {lo hi : Option Expr} {fl fh : Rho → R (Option Int)} (ha : EV X E a fa) (hl : EO X E lo fl) (hh : EO X E hi fh) : EV X E (.Subscript a (.Slice lo hi none p2) pos) (fSl fa fl fh) :=
  pe_imp (pe_slice sl_D ha hl hh) fun s H Q ⟨T, R, h⟩ => ⟨T, R, KE.bnd h fun d G1 H1 _ eg eh R1 h1 v rv =>
    ⟨{ T with G := G1 }, R1, KE.bnd h1 fun o G2 H2 _ eg2 eh2 R2 h2 => ⟨{ T with G := G2 }, R2, KE.bnd h2 fun o2 G3 H3 _ eg3 eh3 R3 h3 => slS_ok (T := { T with G := G3 }) R3 ((rv.mono eg2).mono eg3) h3⟩⟩⟩
def negD : D → R D
  | .int i => .ok (.int (-i))
  | _ => .stuck
def fNeg (fa : Rho → R D) (r : Rho) : R D := (fa r).bnd negD
theorem ev_neg (ha : EV X E a fa) : EV X E (.UnaryOp .USub a pos) (fNeg fa) :=
  pe_imp (pe_un un_neg ha) fun s H Q ⟨T, R, h⟩ => ⟨T, R, KE.bnd h fun d G1 H1 _ eg eh R1 h1 v rv => by
    cases d with
    | int i =>
      cases (show Rp X.K G1 v (.int i) from rv)
      exact ⟨i, rfl, fin (T := { T with G := G1 }) (.int _) h1 R1 (Rp.int _)⟩
    | _ => exact h1.elim⟩
end
def Post (K : PySem.W.Frag) (G H : Hp) (d : D) (Q : VK) : Prop := ∀ v G' H', Ex G G' → Ex H H' → Ex G' H' → (∀ a o, G' a = some o → isMk o = false) → (∀ a o, G' a = some o → G a = none → H a = none) → Rp K G' v d → Q v H'
def spF (K : PySem.W.Frag) (mg : Str → Option Value) (n : Nat) (F : List D → R D) : Sp := fun vs H Q E => ∃ G ds, Ex G H ∧ (∀ a o, G a = some o → isMk o = false) ∧ RpA K G vs ds ∧ ds.length = n ∧ (match F ds with
  | .ok d => Post K G H d Q
  | .err c => ∀ H', Ex H H' → E (clsV mg c) none H'
  | .stuck => False)
structure Fn (P : Program) (w : World) (K : PySem.W.Frag) (mg : Str → Option Value) (base : Heap) (k : Nat) (x : Str) (n : Nat) (F : List D → R D) : Prop where
  ex : ∃ f fd ps, mg x = some (.ref f) ∧ PySem.W.keepIn K (.ref f) = true ∧ Binds K fd ps [] ∧ FnOk P w K mg base (L2.CX P w) k f fd ps (spF K mg n F)
section
variable {X : Cx} {E : WX} {a b c : Expr} {fa fb fc : Rho → R D} {pos p p2 p3 p4 : Pos} {es : List Expr} {fs : Rho → R (List D)} {x tn tn2 : Str} {e : Expr}
theorem passZ {X : Cx} : ∀ σ, PassesAt (L2.CX X.prog X.w) X σ (WE EZ σ) := fun _ _ _ _ _ _ _ h => by
  obtain ⟨_, _, _, _, _, _, _, _, _, _, _, _, z⟩ := h
  exact z.elim
def fCall (n : Nat) (F : List D → R D) (fs : Rho → R (List D)) (r : Rho) : R D := (fs r).bnd fun ds => if ds.length == n then F ds else .stuck
def gUn (G G' : Hp) : Hp := fun a => match G a with
  | some o => some o
  | none => G' a
theorem gUn_l (G G' : Hp) : Ex G (gUn G G') := fun a o h => by
  unfold gUn
  rw [h]
theorem gUn_r {G0 H0 G H G' : Hp} {K : PySem.W.Frag} {r : Rho} {s : St} (R : Rel K G0 H0 r s G H) (eg : Ex (um G) G') (nw : ∀ a o, G' a = some o → um G a = none → H a = none) : Ex G' (gUn G G') := fun a o h => by
  unfold gUn
  cases e : G a with
  | none => exact h
  | some u =>
    show some u = some o
    cases m : isMk u with
    | false =>
      have z := eg _ _ (um_of e m)
      rw [h] at z
      exact z.symm
    | true =>
      have z : um G a = none := by
        unfold um
        rw [e]
        simp [m]
      have z2 := R.gf a (nw a o h z)
      rw [e] at z2
      cases z2
theorem gUn_step {K : PySem.W.Frag} {G0 H0 G H G' H' : Hp} {r : Rho} {s : St} (R : Rel K G0 H0 r s G H) (eg : Ex (um G) G') (eh : Ex H H') (gh : Ex G' H') (no : ∀ a o, G' a = some o → isMk o = false) (nw : ∀ a o, G' a = some o → um G a = none → H a = none) :
    Nw G (gUn G G') H ∧ Rel K G0 H0 r s (gUn G G') H' := by
  have n : Nw G (gUn G G') H := by
    refine ⟨fun a o q z => ?_, fun a o q m => ?_⟩
    · unfold gUn at q
      rw [z] at q
      exact nw a o q (um_none z)
    · unfold gUn at q
      cases e : G a with
      | some u => rw [e] at q; exact q
      | none =>
        rw [e] at q
        rw [no a o q] at m
        cases m
  refine ⟨n, R.step (gUn_l G G') eh (fun a o q => ?_) n⟩
  obtain ⟨q, m⟩ := um_is q
  unfold gUn at q
  cases e : G a with
  | some u =>
    rw [e] at q
    cases q
    exact gh _ _ (eg _ _ (um_of e m))
  | none =>
    rw [e] at q
    exact gh _ _ q
theorem sp_red {K : PySem.W.Frag} {mg : Str → Option Value} {T : Stt} {s : St} {H : Hp} {Q : VK} {F : List D → R D} {n : Nat} {vs : List V} {ds : List D} (R : Rl K T s H) (r : RpA K T.G vs ds) (hn : ds.length = n) (h : KE K mg E T s H (fun d G' H' => ∀ v, RpE K G' s v d → Q v H') (F ds)) : spF K mg n F vs H Q (WE E s) := by
  refine ⟨um T.G, ds, R.gh, fun a o q => (um_is q).2, r.um, hn, ?_⟩
  cases e : F ds with
  | ok d =>
    rw [e] at h
    intro v G' H' a b c no nw rv
    obtain ⟨n, R'⟩ := gUn_step R a b c no nw
    exact h _ H' (gUn_l _ _) b n R' v (rv.mono (gUn_r R a nw)).e
  | err c =>
    rw [e] at h
    exact fun H' eh => h H' (R.hh.trans eh) eh
  | stuck => rw [e] at h; exact h
theorem ev_call {k kx n : Nat} {F : List D → R D} (hF : Fn X.prog X.w X.K X.mg X.base k x n F) (hr : Room kx X.A) (hx : ∀ σ, PassesAt (L2.CX X.prog X.w) X σ (WE E σ)) (hg : Gl X x) (ha : EA X E (e :: es) fs) (hk : k ≤ kx := by decide)
    (hdb : (x == ("__debug__" : Str)) = false := by decide) (he : starEach (e :: es) X.env = (false, eval e X.env) :: starEach es X.env := by rfl) (hpl : (backTo pos (starEach es X.env)).any (·.1) = false := by rfl) : EV X E (.Call (.Name x p) (e :: es) [] pos) (fCall n F fs) := by
  obtain ⟨f, fd, ps, hm, hkp, hb, ok⟩ := hF.ex
  refine pe_imp (pe_callS (E := WE E) ok (hr.mono hk) hg hm hkp hb hx ha hdb he hpl) fun s H Q ⟨T, R, h⟩ => ⟨T, R, KE.bnd h fun ds G1 H1 ed eg eh R1 h1 vs rvs => ?_⟩
  show spF X.K X.mg n F vs H1 Q (WE E s)
  cases el : (ds.length == n) with
  | false => rw [el] at h1; exact h1.elim
  | true =>
    rw [el] at h1
    exact sp_red (T := { T with G := G1 }) R1 rvs (by simpa using el) h1
end
end PL
end
section
namespace PL
open PySem PySem.Spec PyProof.Rows L2
def SqB (K : PySem.W.Frag) (b : Bool) (H : Hp) (a : Addr) (xs : List V) : Prop := if b = true then SqT K H a xs else SqL K H a xs
def ItB (b : Bool) (h : Heap) (it a : Addr) (i : Nat) : Prop := match b with
  | true => h.IsTupleIter it a i
  | false => h.IsListIter it a i
def IsB (b : Bool) (h : Heap) (a : Addr) (xs : Array Value) : Prop := match b with
  | true => h.IsTuple a xs
  | false => h.IsList a xs
def oB (b : Bool) (a : Addr) : Obj := match b with
  | true => { cls := .type "tuple_iterator", data := .fields #[.ref a, .int 0 0] }
  | false => { cls := .type "list_iterator", data := .fields #[.ref a, .int 0 0] }
theorem ItB.at {b : Bool} {h h' : Heap} {it a : Addr} {i : Nat} (x : ItB b h it a i) (k : ∀ o, h.get? it = some o → h'.get? it = some o) : ItB b h' it a i := by
  cases b with
  | true => exact Heap.IsTupleIter.at x k
  | false => exact Heap.IsListIter.at x k
theorem ItB.obj {b : Bool} {h : Heap} {it a : Addr} {i : Nat} (x : ItB b h it a i) : ∃ o, h.get? it = some o ∧ ∀ (v : Option Value), o.data ≠ Data.cell v := by
  cases b with
  | true =>
    obtain ⟨o, e, _, d⟩ := x
    exact ⟨o, e, fun v q => by rw [d] at q; cases q⟩
  | false =>
    obtain ⟨o, e, _, d⟩ := x
    exact ⟨o, e, fun v q => by rw [d] at q; cases q⟩
theorem ItB.new {b : Bool} {h : Heap} {it a : Addr} (x : h.get? it = some (oB b a)) : ItB b h it a 0 := by
  cases b with
  | true => exact ⟨_, x, rfl, rfl⟩
  | false => exact ⟨_, x, rfl, rfl⟩
theorem drawsB {prog : Program} {w : World} {A : Around} (b : Bool) (hh : A.handled = none) (it a : Addr) (hne : a ≠ it) (items : Array Value) :
    Draws prog w A it [it, a] items.size (fun i v => items[i]? = some v) (fun i h => ItB b h it a i ∧ IsB b h a items) := by
  cases b with
  | true => exact Draws.tuple hh it a hne items
  | false => exact Draws.list hh it a hne items
theorem beginsB (b : Bool) (a : Addr) (items : Array Value) : Begins (.ref a) (oB b a) fun h => IsB b h a items := by
  cases b with
  | true => exact begins_tuple a items
  | false => exact begins_list a items
theorem sideB {X : Cx} {pins : List (Addr × Obj)} {s : St} {H : Hp} {sh : Shared} {b : Bool} {a : Addr} {xs : List V} (I : L2.Inv X pins s H sh) (h : SqB X.K b H a xs) : ∃ its, Vals xs its ∧ IsB b sh.heap a its.toArray ∧ a < sh.heap.objs.size := by
  cases b with
  | true =>
    obtain ⟨its, rv, p, _⟩ := I.tuple h
    obtain ⟨o, ho, _⟩ := id p
    exact ⟨its, rv, p, Heap.lt_size ho⟩
  | false =>
    obtain ⟨its, rv, p, _⟩ := I.list h
    exact ⟨its, rv, p.isList, p.lt⟩
theorem injB {X : Cx} {pins : List (Addr × Obj)} {s : St} {H : Hp} {sh : Shared} {b : Bool} {a : Addr} {xs ys : List V} (I : L2.Inv X pins s H sh) (h : SqB X.K b H a xs) (h' : SqB X.K b H a ys) : xs = ys := by
  cases b with
  | true => exact I.tuple_inj h h'
  | false => exact I.list_inj h h'
def ItzM (K : PySem.W.Frag) (b1 b2 : Bool) (a b : Addr) : It :=
  ⟨fun i H => ∃ (xs ys : List V) (x y : V), SqB K b1 H a xs ∧ SqB K b2 H b ys ∧ xs[i]? = some x ∧ ys[i]? = some y,
    fun i H v H' => ∃ T x y, v = .ref T ∧ H T = none ∧ H' = upd H T (.tup [x, y]) ∧ (∀ xs, SqB K b1 H a xs → xs[i]? = some x) ∧ ∀ ys, SqB K b2 H b ys → ys[i]? = some y,
    fun i H => ∃ xs ys : List V, SqB K b1 H a xs ∧ SqB K b2 H b ys ∧ i ≤ xs.length ∧ i ≤ ys.length ∧ (i = xs.length ∨ i = ys.length)⟩
theorem apart_sep {z TI TO i1 i2 a b : Addr} (D : ZipApart z TI TO i1 i2 a b) : ZipSep2 z TI TO i1 i2 [i1, a] [i2, b] where
  TIz := D.TIz
  TOz := D.TOz
  TITO := D.TITO
  TIi1 := D.TIi1
  mem1 := by simp
  zf1 := by simp [D.i1z.symm, D.l1z.symm]
  Tf1 := by simp [D.TOi1, D.l1TO.symm]
  TIi2 := D.TIi2
  mem2 := by simp
  zf2 := by simp [D.i2z.symm, D.l2z.symm]
  Tf2 := by simp [D.TOi2, D.l2TO.symm]
  sep1_2 := by simp [D.i12, D.l2i1.symm]
  sep2_1 := by simp [D.i12.symm, D.l1i2.symm]
theorem turn_zipM {P : Program} {w : World} {K : PySem.W.Frag} {elts : List Expr} {kk : Nat} {tpos : Pos} {b1 b2 : Bool} {a b z TI TO i1 i2 : Addr} (D : ZipApart z TI TO i1 i2 a b) :
    Turn P w K (.Tuple elts kk tpos) (ItzM K b1 b2 a b) [z, TI, TO, i1, i2] z (fun i h => IsZip h z TI TO .none ∧ IsPair h TI (.ref i1) (.ref i2) ∧ (∃ x y, IsPair h TO x y) ∧ ItB b1 h i1 a i ∧ ItB b2 h i2 b i) where
  mem := by simp
  obj := fun i h st c hc => by
    obtain ⟨hz, hTI, ⟨x, y, hTO⟩, h1, h2⟩ := st
    have e' : c = z ∨ c = TI ∨ c = TO ∨ c = i1 ∨ c = i2 := by simpa using hc
    rcases e' with q | q | q | q | q
    · rw [q]; exact ⟨_, hz, fun v q => nomatch q⟩
    · rw [q]; exact ⟨_, hTI, fun v q => nomatch q⟩
    · rw [q]; exact ⟨_, hTO, fun v q => nomatch q⟩
    · rw [q]; exact h1.obj
    · rw [q]; exact h2.obj
  keep := fun i h h' st k => by
    obtain ⟨hz, hTI, ⟨x, y, hTO⟩, h1, h2⟩ := st
    exact ⟨k z (by simp) _ hz, k TI (by simp) _ hTI, ⟨x, y, k TO (by simp) _ hTO⟩, h1.at fun o q => k i1 (by simp) o q, h2.at fun o q => k i2 (by simp) o q⟩
  item := by
    intro X hP hw hK hc i pins s σ H E I hf st hg
    subst hP hw hK
    obtain ⟨hz, hTI, ⟨x0, y0, hTO⟩, h1, h2⟩ := st
    obtain ⟨xs, ys, x, y, hqx, hqy, hx, hy⟩ := hg
    obtain ⟨its, rv, p, _⟩ := sideB I hqx
    obtain ⟨its2, rv2, p2, _⟩ := sideB I hqy
    obtain ⟨u, hu, ru⟩ := rv.get hx
    obtain ⟨u2, hu2, ru2⟩ := rv2.get hy
    have hzl : z < s.heap.objs.size := Heap.lt_size hz
    have lt1 : i < its.toArray.size := by
      have := (List.getElem?_eq_some_iff.mp hu).1
      simpa using this
    have lt2 : i < its2.toArray.size := by
      have := (List.getElem?_eq_some_iff.mp hu2).1
      simpa using this
    refine wpAny_pyNext_zipD2_item (apart_sep D) (drawsB b1 (A := X.A.in1) (I.ok.hd hc) i1 a D.l1i1 its.toArray) (drawsB b2 (A := X.A.in1) (I.ok.hd hc) i2 b D.l2i2 its2.toArray) hz hTI hTO ⟨h1, p⟩ ⟨h2, p2⟩ lt1 lt2 fun w1 w2 h' tk e1 e2 z' TO' h1' h2' hT hsz hk => ?_
    have ew1 : w1 = u := by
      have : its[i]? = some w1 := by simpa using e1
      rw [hu] at this
      exact (Option.some.inj this).symm
    have ew2 : w2 = u2 := by
      have : its2[i]? = some w2 := by simpa using e2
      rw [hu2] at this
      exact (Option.some.inj this).symm
    subst ew1 ew2
    refine ⟨_, rfl, wpAny_letOwnedTupleGo_zip (s := { s with heap := h', toks := tk }) z' fun h'' z'' sb => ?_⟩
    have hT2 : h''.get? s.heap.objs.size = some { cls := .type "tuple", data := .seq #[w1, w2] } := (sb.2 _ (Nat.ne_of_gt hzl)).trans hT
    have new : ObjOk X.prog X.w (upd H s.heap.objs.size (.tup [x, y])) h'' s.heap.objs.size (.tup [x, y]) :=
      ⟨by show 2 ≤ sizeLine; decide, [w1, w2], .cons ru (.cons ru2 .nil), ⟨_, hT2, rfl, _, rfl⟩⟩
    have I1 : L2.Inv X pins σ (upd H s.heap.objs.size (.tup [x, y])) { s with heap := h'', toks := tk } :=
      I.turnedNew (t' := tk) (ch := [z, TI, TO, i1, i2]) (fun c o hb q => (sb.2 c (fun q' => hb (by simp [q']))).trans (hk c o (fun q' => hb (by simp [q'])) (fun q' => hb (by simp [q'])) (fun q' => hb (by simp [q'])) (fun q' => hb (by simp [q'])) q)) hf (Nat.le_refl _) new
    refine ⟨.ref s.heap.objs.size, _, I1, rfl, ⟨_, x, y, rfl, I.hok.fresh (Nat.le_refl _), rfl, fun l hl => by rw [injB I hl hqx]; exact hx, fun l hl => by rw [injB I hl hqy]; exact hy⟩, ⟨z'', ?_, ⟨w1, w2, ?_⟩, ?_, ?_⟩, fun c hcm => ?_⟩
    · exact (sb.2 _ D.TIz).trans (hk _ _ D.TIz D.TITO D.TIi1 D.TIi2 hTI)
    · exact (sb.2 _ D.TOz).trans TO'
    · exact h1'.1.at fun o q => (sb.2 _ D.i1z).trans q
    · exact h2'.1.at fun o q => (sb.2 _ D.i2z).trans q
    · have hlt : c < s.heap.objs.size := by
        have e' : c = z ∨ c = TI ∨ c = TO ∨ c = i1 ∨ c = i2 := by simpa using hcm
        rcases e' with q | q | q | q | q
        · rw [q]; exact hzl
        · rw [q]; exact Heap.lt_size hTI
        · rw [q]; exact Heap.lt_size hTO
        · rw [q]; obtain ⟨_, e1, _⟩ := h1.obj; exact Heap.lt_size e1
        · rw [q]; obtain ⟨_, e2, _⟩ := h2.obj; exact Heap.lt_size e2
      rw [upd_ne (Nat.ne_of_lt hlt)]
      exact (hf c hcm).1
  done := by
    intro X hP hw hK hc i pins s σ H E I hf st hg
    subst hP hw hK
    obtain ⟨hz, hTI, ⟨x0, y0, hTO⟩, h1, h2⟩ := st
    obtain ⟨xs, ys, hqx, hqy, g1, g2, hend⟩ := hg
    obtain ⟨its, rv, p, _⟩ := sideB I hqx
    obtain ⟨its2, rv2, p2, _⟩ := sideB I hqy
    have l1 := rv.length
    have l2 := rv2.length
    exact wpAny_pyNext_zipD2_end (apart_sep D) (drawsB b1 (A := X.A.in1) (I.ok.hd hc) i1 a D.l1i1 its.toArray) (drawsB b2 (A := X.A.in1) (I.ok.hd hc) i2 b D.l2i2 its2.toArray) hz hTI hTO ⟨h1, p⟩ ⟨h2, p2⟩ (by simp; omega) (by simp; omega) (by simp; omega) fun h' tk hk => ⟨rfl, I.turnedL (t' := tk) (ch := [z, TI, TO, i1, i2]) (fun c o hb q =>
      hk c o (fun q' => hb (by simp [q'])) (fun q' => hb (by simp [q'])) (fun q' => hb (by simp [q'])) (fun q' => hb (by simp [q'])) q) hf⟩
  self := fun A i s Q E st h => wpAny_pyIter_zip st.1 h
def iZipM (K : PySem.W.Frag) (ta : TA) : TI := fun σ H R => ta σ H fun vs H1 => ∃ b1 b2 a b xs ys, vs = [.ref a, .ref b] ∧ SqB K b1 H1 a xs ∧ SqB K b2 H1 b ys ∧ R (ItzM K b1 b2 a b) H1
theorem pi_zipM {X : Cx} {e e2 : Expr} {ta : TA} {p pos tpos : Pos} {elts : List Expr} {kk : Nat} (hg : Gl X "zip") (hm : X.mg "zip" = none) (ha : PA X [e, e2] ta)
    (hs : starEach [e, e2] X.env = (false, eval e X.env) :: starEach [e2] X.env := by rfl) (hpl : (backTo pos (starEach [e2] X.env)).any (·.1) = false := by rfl) :
    PI X (.Tuple elts kk tpos) (.Call (.Name "zip" p) [e, e2] [] pos) (iZipM X.K ta) := by
  refine ⟨fun pins s σ H R I h => ?_⟩
  refine Call_ (ld_blt I hg hm PyProof.Rows.boot_zip (PyProof.Rows.callWith_type1 (thn (ha.run pos pins s σ H _ I h) fun us s1 ⟨vs, H1, I1, r1, q1⟩ => ?_) hs hpl))
  obtain ⟨b1, b2, a, b, xs, ys, ex, hqx, hqy, q⟩ := q1
  subst ex
  cases r1 with
  | cons r rr =>
    cases rr with
    | cons r' rr =>
      cases rr
      cases r
      cases r'
      obtain ⟨its, rv, p1, la⟩ := sideB I1 hqx
      obtain ⟨its2, rv2, p2, lb⟩ := sideB I1 hqy
      have fresh5 : ∀ c, c ∈ [s1.heap.objs.size + 4, s1.heap.objs.size + 2, s1.heap.objs.size + 3, s1.heap.objs.size, s1.heap.objs.size + 1] → FpOk X pins H1 c := fun c hcm => by
        have e' : c = s1.heap.objs.size + 4 ∨ c = s1.heap.objs.size + 2 ∨ c = s1.heap.objs.size + 3 ∨ c = s1.heap.objs.size ∨ c = s1.heap.objs.size + 1 := by simpa using hcm
        have hle : s1.heap.objs.size ≤ c := by
          rcases e' with z | z | z | z | z
          · rw [z]; exact Nat.le_add_right _ _
          · rw [z]; exact Nat.le_add_right _ _
          · rw [z]; exact Nat.le_add_right _ _
          · rw [z]; exact Nat.le_refl _
          · rw [z]; exact Nat.le_add_right _ _
        exact I1.fpOk hle (I1.hok.fresh hle)
      refine zip_begins2 (beginsB b1 a its.toArray) (beginsB b2 b its2.toArray) p1 p2 fun h' hz hTI hTO h1 h2 hsz hk => wpAny_pyIter_zip hz ?_
      have I2 : L2.Inv X pins σ H1 { s1 with heap := h' } := I1.kept (t' := s1.toks) hk
      exact ⟨s1.heap.objs.size + 4, [s1.heap.objs.size + 4, s1.heap.objs.size + 2, s1.heap.objs.size + 3, s1.heap.objs.size, s1.heap.objs.size + 1], _, _, H1, rfl, I2, turn_zipM (b1 := b1) (b2 := b2) (PySem.W.ktu_apart s1.heap.objs.size a b la lb), ⟨hz, hTI, ⟨_, _, hTO⟩, .new h1, .new h2⟩, fresh5, q⟩
end PL
end
section
namespace PL
open PySem PySem.Spec PyProof.Rows L2
def IteB (K : PySem.W.Frag) (b : Bool) (a : Addr) : It :=
  ⟨fun i H => ∃ (xs : List V) (x : V), SqB K b H a xs ∧ xs[i]? = some x, fun i H v H' => ∃ T x, v = .ref T ∧ H T = none ∧ H' = upd H T (.tup [.int (i : Nat), x]) ∧ ∀ xs, SqB K b H a xs → xs[i]? = some x, fun i H => ∃ xs : List V, SqB K b H a xs ∧ i = xs.length⟩
theorem turn_enumB {P : Program} {w : World} {K : PySem.W.Frag} {elts : List Expr} {kk : Nat} {tpos : Pos} (b : Bool) (a e it : Addr) (hei : e ≠ it) (hea : e ≠ a) (hai : a ≠ it) :
    Turn P w K (.Tuple elts kk tpos) (IteB K b a) [e, it] e (fun i h => (∃ old, IsEnum h e it ((i : Nat) : Int) old) ∧ ItB b h it a i) where
  mem := by simp
  obj := fun i h st c hc => by
    obtain ⟨⟨old, he⟩, hit⟩ := st
    have e' : c = e ∨ c = it := by simpa using hc
    rcases e' with z | z
    · rw [z]; exact ⟨_, he, fun v q => nomatch q⟩
    · rw [z]; exact hit.obj
  keep := fun i h h' st k => let ⟨⟨old, he⟩, hi⟩ := st; ⟨⟨old, k e (by simp) _ he⟩, hi.at fun o q => k it (by simp) o q⟩
  item := by
    intro X hP hw hK hc i pins s σ H E I hf st hg
    subst hP hw hK
    obtain ⟨⟨old, he⟩, hit⟩ := st
    obtain ⟨xs, x, hq, hx⟩ := hg
    obtain ⟨its, rv, p, _⟩ := sideB I hq
    obtain ⟨u, hu, ru⟩ := rv.get hx
    have hel : e < s.heap.objs.size := Heap.lt_size he
    have hil : it < s.heap.objs.size := by obtain ⟨_, q, _⟩ := hit.obj; exact Heap.lt_size q
    have lt : i < its.toArray.size := by
      have := (List.getElem?_eq_some_iff.mp hu).1
      simpa using this
    refine wpAny_pyNext_enum_itemD (drawsB b (A := X.A.in1) (I.ok.hd hc) it a hai its.toArray) he ⟨hit, p⟩ lt hei (by simp [hei, hea]) fun w1 h' tk e1 ho hit' hT hsz hk => ?_
    have ew1 : w1 = u := by
      have : its[i]? = some w1 := by simpa using e1
      rw [hu] at this
      exact (Option.some.inj this).symm
    subst ew1
    refine ⟨_, rfl, wpAny_letOwnedTupleGo_enum (s := { s with heap := h', toks := tk + 1 }) ho fun h'' he' sb => ?_⟩
    have hT2 : h''.get? s.heap.objs.size = some { cls := .type "tuple", data := .seq #[.int i tk, w1] } := (sb.2 _ (Nat.ne_of_gt hel)).trans hT
    have new : ObjOk X.prog X.w (upd H s.heap.objs.size (.tup [.int (i : Nat), x])) h'' s.heap.objs.size (.tup [.int (i : Nat), x]) :=
      ⟨by show 2 ≤ sizeLine; decide, [.int i tk, w1], .cons ⟨_, rfl⟩ (.cons ru .nil), ⟨_, hT2, rfl, _, rfl⟩⟩
    have I1 : L2.Inv X pins σ (upd H s.heap.objs.size (.tup [.int (i : Nat), x])) { s with heap := h'', toks := tk + 1 } :=
      I.turnedNew (ch := [e, it]) (fun c ob hb q => (sb.2 c (fun z => hb (by simp [z]))).trans (hk c ob (fun z => hb (by simp [z])) (fun z => hb (by simp [z])) q)) hf (Nat.le_refl _) new
    refine ⟨.ref s.heap.objs.size, _, I1, rfl, ⟨_, x, rfl, I.hok.fresh (Nat.le_refl _), rfl, fun ys hy => by rw [injB I hy hq]; exact hx⟩, ⟨⟨w1, ?_⟩, hit'.1.at fun o q => (sb.2 it (Ne.symm hei)).trans q⟩, fun c hb => ?_⟩
    · have e1 : ((i + 1 : Nat) : Int) = (i : Int) + 1 := by omega
      rw [e1]; exact he'
    · have hb' : c < s.heap.objs.size := by
        have e' : c = e ∨ c = it := by simpa using hb
        rcases e' with z | z
        · rw [z]; exact hel
        · rw [z]; exact hil
      rw [upd_ne (Nat.ne_of_lt hb')]
      exact (hf c hb).1
  done := by
    intro X hP hw hK hc i pins s σ H E I hf st hg
    subst hP hw hK
    obtain ⟨⟨old, he⟩, hit⟩ := st
    obtain ⟨xs, hq, hx⟩ := hg
    obtain ⟨its, rv, p, _⟩ := sideB I hq
    obtain ⟨f0, f1, f2, f3, f4, f5⟩ := hf it (by simp)
    have hl := rv.length
    have en : i = its.toArray.size := by simp; omega
    rw [en] at hit
    exact wpAny_pyNext_enum_endD (drawsB b (A := X.A.in1) (I.ok.hd hc) it a hai its.toArray) he ⟨hit, p⟩ fun h' eb => ⟨rfl, I.turned (t' := s.toks) (fun b o hb q => eb b o hb q) f0 f1 f3 f4 f5⟩
  self := fun A i s Q E st h => let ⟨⟨_, he⟩, _⟩ := st; wpAny_pyIter_enum he h
set_option maxHeartbeats 1000000 in
theorem meets_enumerate_newB1 {v : Value} {o : Obj} {H : Heap → Prop} (B : Begins v o H) :
    Meets (Builtin.«enumerate.__new__» ⟨[.type "enumerate", v], []⟩) (fun _ R s => H s.heap ∧
      R (.ok (.ret (.ref (s.heap.push o).objs.size))) { s with heap := (s.heap.push o).push { cls := .type "enumerate", data := .fields #[.none, .bool false, .ref s.heap.objs.size, rawInt 0, .none, .none] } }) :=
  .of_wp fun prog w A R s h => by
    obtain ⟨hp, g, d, tk, os⟩ := s; obtain ⟨h1, h⟩ := h
    have hsub := sub_enumerate
    have q1 : ∀ {A' : Around} {E : Value → Shared → Prop} {Q : Value → Shared → Prop}, Q (.ref hp.objs.size) ⟨hp.push o, g, d, tk, os⟩ → wpAny (model prog w) A' (pyIter v) Q E ⟨hp, g, d, tk, os⟩ :=
      fun q => B.iter prog w _ _ ⟨hp, g, d, tk, os⟩ _ h1 q
    wp_walk using q1
    refine wpAny_stack_any fun st => wpAny_pure ?_
    split
    · rename_i c _ _ _ _ _
      cases (c == Value.type "enumerate")
      · wp_walk using q1
        exact ⟨_, rfl, h⟩
      · wp_walk using q1
        exact ⟨_, rfl, h⟩
    · wp_walk using q1
      exact ⟨_, rfl, h⟩
theorem enum_begins1 {prog : Program} {w : World} {A : Around} {E : Value → Shared → Prop} {s : Shared} {v : Value} {o : Obj} {H : Heap → Prop} {Q : Value → Shared → Prop} (B : Begins v o H) (h1 : H s.heap)
    (h : ∀ h', IsEnum h' (s.heap.objs.size + 1) s.heap.objs.size 0 .none → h'.get? s.heap.objs.size = some o → h'.objs.size = s.heap.objs.size + 2 →
      (∀ b o, s.heap.get? b = some o → h'.get? b = some o) → Q (.ref (s.heap.objs.size + 1)) { s with heap := h' }) :
    wpAny (model prog w) A (call (.type "enumerate") [v]) Q E s := by
  refine callType_new F.called_enumerate (by decide) (F.typeCall_enumerate_1 _) (F.newCall_enumerate_1 _) (fun obj => F.args_object_init_2 obj _) F.entry_enumerate_new
    (meets_enumerate_newB1 B) ⟨h1, ?_⟩
  have hz : (s.heap.push o).objs.size = s.heap.objs.size + 1 := Heap.size_push ..
  show _ ∧ _
  rw [hz]
  have he : IsEnum ((s.heap.push o).push { cls := .type "enumerate", data := .fields #[.none, .bool false, .ref s.heap.objs.size, rawInt 0, .none, .none] }) (s.heap.objs.size + 1) s.heap.objs.size 0 .none := by
    have := Heap.get?_push_size (s.heap.push o) (o := { cls := .type "enumerate", data := .fields #[.none, .bool false, .ref s.heap.objs.size, rawInt 0, .none, .none] }) rfl
    rw [hz] at this; exact this
  refine ⟨⟨_, he, rfl⟩, h _ he (Heap.get?_push_of_some _ (Heap.get?_push_size _ B.free)) (by rw [Heap.size_push, hz]) fun b o x => Heap.get?_push_of_some _ (Heap.get?_push_of_some _ x)⟩
def iEnumB (K : PySem.W.Frag) (ta : TA) : TI := fun σ H R => ta σ H fun vs H1 => ∃ b a xs, vs = [.ref a] ∧ SqB K b H1 a xs ∧ R (IteB K b a) H1
theorem pi_enumB {X : Cx} {e : Expr} {ta : TA} {p pos tpos : Pos} {elts : List Expr} {kk : Nat} (hg : Gl X "enumerate") (hm : X.mg "enumerate" = none) (ha : PA X [e] ta) (hs : starEach [e] X.env = [(false, eval e X.env)] := by rfl) :
    PI X (.Tuple elts kk tpos) (.Call (.Name "enumerate" p) [e] [] pos) (iEnumB X.K ta) := by
  refine ⟨fun pins s σ H R I h => ?_⟩
  refine Call_ (ld_blt I hg hm boot_enumerate (PyProof.Rows.callWith_type1 (thn (ha.run pos pins s σ H _ I h) fun us s1 ⟨vs, H1, I1, r1, q1⟩ => ?_) hs rfl))
  obtain ⟨b, a, xs, ex, hq, q⟩ := q1
  subst ex
  cases r1 with
  | cons r rr =>
    cases rr
    cases r
    obtain ⟨its, rv, p', la⟩ := sideB I1 hq
    refine enum_begins1 (beginsB b a its.toArray) p' fun h' he hit hsz hk => wpAny_pyIter_enum he ?_
    have I2 : L2.Inv X pins σ H1 { s1 with heap := h' } := I1.kept (t' := s1.toks) hk
    refine ⟨s1.heap.objs.size + 1, [s1.heap.objs.size + 1, s1.heap.objs.size], _, _, H1, rfl, I2, turn_enumB b a (s1.heap.objs.size + 1) s1.heap.objs.size (Nat.succ_ne_self _) (Nat.ne_of_gt (Nat.lt_succ_of_lt la)) (Nat.ne_of_lt la), ⟨⟨.none, he⟩, ItB.new hit⟩, fun c hb => ?_, q⟩
    have e' : c = s1.heap.objs.size + 1 ∨ c = s1.heap.objs.size := by simpa using hb
    have hle : s1.heap.objs.size ≤ c := by
      rcases e' with z | z
      · rw [z]; exact Nat.le_add_right _ _
      · rw [z]; exact Nat.le_refl _
    exact I1.fpOk hle (I1.hok.fresh hle)
end PL
end
section
namespace PL
open PySem PySem.Spec PyProof.Rows L2
theorem join_set {s : St} {i j : Nat} {o : Option V} (h : i < s.length) : ((s.set i o)[j]?).join = if j = i then o else (s[j]?).join := by
  by_cases e : j = i
  · subst e
    rw [if_pos rfl, List.getElem?_set_self h]
    rfl
  · rw [if_neg e, List.getElem?_set_ne (Ne.symm e)]
section
variable {K : PySem.W.Frag} {G0 H0 G H : Hp} {r : Rho} {s : St}
theorem Rel.setIm {i : Nat} {v : V} {d : D} (R : Rel K G0 H0 r s G H) (hv : RpO K G v d) (hs : i < s.length) : Rel K G0 H0 (r.set i (.im d)) (s.set i (some v)) G H where
  gg := R.gg
  hh := R.hh
  gh := R.gh
  gf := R.gf
  nw := R.nw
  sl := fun j x hx => by
    have hi : i < r.length := Nat.lt_of_lt_of_le hs R.ln.lo
    rw [join_set hs]
    by_cases e : j = i
    · subst e
      rw [List.getElem?_set_self hi] at hx
      cases hx
      rw [if_pos rfl]
      exact ⟨v, rfl, hv⟩
    · rw [List.getElem?_set_ne (Ne.symm e)] at hx
      rw [if_neg e]
      exact R.sl j x hx
  ds := fun j k a h1 h2 => by
    have hi : i < r.length := Nat.lt_of_lt_of_le hs R.ln.lo
    have key : ∀ j, OwnAt (r.set i (.im d)) (s.set i (some v)) j a → OwnAt r s j a := fun j h => by
      obtain ⟨q1, q2⟩ := h
      by_cases e : j = i
      · subst e
        rw [List.getElem?_set_self hi] at q1
        exact q1.elim
      · rw [List.getElem?_set_ne (Ne.symm e)] at q1 q2
        exact ⟨q1, q2⟩
    exact R.ds j k a (key j h1) (key k h2)
  ln := R.ln.set hs _ _
theorem Rel.setOl {i : Nat} {p : Addr} {xs : List V} {ds : List D} (R : Rel K G0 H0 r s G H) (hp : H p = some (.lst xs)) (hg : G p = none) (h0 : H0 p = none) (hn : ∀ j, j ≠ i → ¬ OwnAt r s j p) (hr : RpA K G xs ds) (hs : i < s.length) : Rel K G0 H0 (r.set i (.ol ds)) (s.set i (some (.ref p))) G H where
  gg := R.gg
  hh := R.hh
  gh := R.gh
  gf := R.gf
  nw := R.nw
  sl := fun j x hx => by
    have hi : i < r.length := Nat.lt_of_lt_of_le hs R.ln.lo
    rw [join_set hs]
    by_cases e : j = i
    · subst e
      rw [List.getElem?_set_self hi] at hx
      cases hx
      rw [if_pos rfl]
      exact ⟨p, xs, rfl, hp, hg, h0, hr⟩
    · rw [List.getElem?_set_ne (Ne.symm e)] at hx
      rw [if_neg e]
      exact R.sl j x hx
  ds := fun j k a h1 h2 => by
    have key : ∀ j, j ≠ i → OwnAt (r.set i (.ol ds)) (s.set i (some (.ref p))) j a → OwnAt r s j a := fun j e h => by
      obtain ⟨q1, q2⟩ := h
      rw [List.getElem?_set_ne (Ne.symm e)] at q1 q2
      exact ⟨q1, q2⟩
    have at_i : ∀ j, j = i → OwnAt (r.set i (.ol ds)) (s.set i (some (.ref p))) j a → a = p := fun j e h => by
      obtain ⟨q1, q2⟩ := h
      subst e
      rw [List.getElem?_set_self hs] at q2
      cases q2
      rfl
    by_cases e1 : j = i
    · by_cases e2 : k = i
      · rw [e1, e2]
      · have ea := at_i j e1 h1
        subst ea
        exact absurd (key k e2 h2) (hn k e2)
    · by_cases e2 : k = i
      · have ea := at_i k e2 h2
        subst ea
        exact absurd (key j e1 h1) (hn j e1)
      · exact R.ds j k a (key j e1 h1) (key k e2 h2)
  ln := R.ln.set hs _ _
theorem Rel.setUn {i : Nat} {o : Option V} (R : Rel K G0 H0 r s G H) (hs : i < s.length) : Rel K G0 H0 (r.set i .un) (s.set i o) G H := by
  have hi : i < r.length := Nat.lt_of_lt_of_le hs R.ln.lo
  refine ⟨R.gg, R.hh, R.gh, R.gf, R.nw, fun j x hx => ?_, fun j k a h1 h2 => ?_, R.ln.set hs _ _⟩
  · rw [join_set hs]
    by_cases e : j = i
    · subst e
      rw [List.getElem?_set_self hi] at hx
      cases hx
      exact trivial
    · rw [List.getElem?_set_ne (Ne.symm e)] at hx
      rw [if_neg e]
      exact R.sl j x hx
  · have key : ∀ j, OwnAt (r.set i .un) (s.set i o) j a → OwnAt r s j a := fun j h => by
      obtain ⟨q1, q2⟩ := h
      by_cases e : j = i
      · subst e
        rw [List.getElem?_set_self hi] at q1
        exact q1.elim
      · rw [List.getElem?_set_ne (Ne.symm e)] at q1 q2
        exact ⟨q1, q2⟩
    exact R.ds j k a (key j h1) (key k h2)
def wipeR (r : Rho) : List Nat → Rho
  | [] => r
  | v :: vs => (wipeR r vs).set v .un
theorem Rel.wipe (R : Rel K G0 H0 r s G H) : ∀ vs : List Nat, (∀ i ∈ vs, i < s.length) → Rel K G0 H0 (wipeR r vs) (L2.wipe s vs) G H
  | [], _ => R
  | v :: vs, h => (R.wipe vs fun i hi => h i (List.mem_cons_of_mem _ hi)).setUn (by rw [wipe_length]; exact h v List.mem_cons_self)
theorem Rel.mut {p : Addr} {o : HO} (R : Rel K G0 H0 r s G H) (hg : G p = none) (h0 : H0 p = none) (hn : ∀ i, ¬ OwnAt r s i p) : Rel K G0 H0 r s G (upd H p o) where
  gg := R.gg
  hh := ex_into R.hh h0
  gh := ex_into R.gh (um_none hg)
  gf := fun a q => by
    by_cases z : a = p
    · rw [z, upd_same] at q; cases q
    · rw [upd_ne z] at q; exact R.gf a q
  nw := R.nw
  sl := fun i x hx => by
    have q := R.sl i x hx
    cases x with
    | un => exact q
    | im d => exact q
    | ol ds =>
      obtain ⟨a, xs, e1, e2, e3, e4, e5⟩ := q
      have na : a ≠ p := fun z => by
        subst z
        refine hn i ⟨?_, ?_⟩
        · rw [hx]; trivial
        · cases e6 : s[i]? with
          | none => rw [e6] at e1; cases e1
          | some w => rw [e6] at e1; exact congrArg some e1
      exact ⟨a, xs, e1, by rw [upd_ne na]; exact e2, e3, e4, e5⟩
    | od ds =>
      obtain ⟨a, xs, e1, e2, e3, e4, e5⟩ := q
      have na : a ≠ p := fun z => by
        subst z
        refine hn i ⟨?_, ?_⟩
        · rw [hx]; trivial
        · cases e6 : s[i]? with
          | none => rw [e6] at e1; cases e1
          | some w => rw [e6] at e1; exact congrArg some e1
      exact ⟨a, xs, e1, by rw [upd_ne na]; exact e2, e3, e4, e5⟩
    | st w os => exact StOk.off hg q
  ds := R.ds
  ln := R.ln
end
inductive Tg where
  | nm (i : Nat) | tp (ts : List Tg)
mutual
def setT : Tg → D → Rho → R Rho
  | .nm i, d, r => if decide (i < r.length) then .ok (r.set i (.im d)) else .stuck
  | .tp ts, d, r => match d with
    | .tup ds => setTs ts ds r
    | .lst ds => setTs ts ds r
    | .tpo ds => setTs ts ds r
    | _ => .stuck
def setTs : List Tg → List D → Rho → R Rho
  | [], [], r => .ok r
  | t :: ts, d :: ds, r => (setT t d r).bnd fun r2 => setTs ts ds r2
  | _, _, _ => .stuck
end
mutual
def Tg.slots : Tg → List Nat
  | .nm i => [i]
  | .tp ts => slotsAll ts
def slotsAll : List Tg → List Nat
  | [] => []
  | t :: ts => t.slots ++ slotsAll ts
end
def Agree (is : List Nat) (s s' : St) : Prop := s'.length = s.length ∧ ∀ i, i ∉ is → s'[i]? = s[i]?
theorem Agree.refl (is : List Nat) (s : St) : Agree is s s := ⟨rfl, fun _ _ => rfl⟩
theorem Agree.trans {is js : List Nat} {s s' s2 : St} (a : Agree is s s') (b : Agree js s' s2) : Agree (is ++ js) s s2 :=
  ⟨b.1.trans a.1, fun i hi => (b.2 i fun z => hi (List.mem_append_right _ z)).trans (a.2 i fun z => hi (List.mem_append_left _ z))⟩
theorem wipe_get (s : St) : ∀ (vs : List Nat) (i : Nat), (L2.wipe s vs)[i]? = if i ∈ vs then (s[i]?.map fun _ => none) else s[i]?
  | [], i => by simp [L2.wipe]
  | v :: vs, i => by
    show ((L2.wipe s vs).set v none)[i]? = _
    by_cases e : v = i
    · subst e
      rw [if_pos List.mem_cons_self]
      by_cases h : v < (L2.wipe s vs).length
      · rw [List.getElem?_set_self h]
        rw [wipe_length] at h
        rw [List.getElem?_eq_getElem h]
        rfl
      · rw [List.getElem?_eq_none (by rw [List.length_set]; omega)]
        rw [wipe_length] at h
        rw [List.getElem?_eq_none (by omega)]
        rfl
    · rw [List.getElem?_set_ne e, wipe_get s vs i]
      by_cases m : i ∈ vs
      · rw [if_pos m, if_pos (List.mem_cons_of_mem _ m)]
      · rw [if_neg m, if_neg (fun z => by rcases List.mem_cons.mp z with z | z; exact e z.symm; exact m z)]
theorem Agree.wipe {is vs : List Nat} {s s' : St} (a : Agree is s s') (h : ∀ i ∈ is, i ∈ vs) : L2.wipe s' vs = L2.wipe s vs := by
  apply List.ext_getElem?
  intro i
  rw [wipe_get, wipe_get]
  by_cases m : i ∈ vs
  · rw [if_pos m, if_pos m]
    have l := a.1
    by_cases h1 : i < s.length
    · rw [List.getElem?_eq_getElem h1, List.getElem?_eq_getElem (by omega : i < s'.length)]
      rfl
    · rw [List.getElem?_eq_none (by omega), List.getElem?_eq_none (by omega)]
  · rw [if_neg m, if_neg m]
    exact a.2 i fun z => m (h i z)
theorem wipe_idem (s : St) (vs : List Nat) : L2.wipe (L2.wipe s vs) vs = L2.wipe s vs := Agree.wipe (is := vs) ⟨wipe_length s vs, fun i hi => by rw [wipe_get, if_neg hi]⟩ (fun _ h => h)
def tG (K : PySem.W.Frag) (t : Tg) : TG := fun v s H Q => ∃ T d, Rl K T s H ∧ RpO K T.G v d ∧ (match setT t d T.r with
  | .ok r' => ∀ s', Rel K T.G0 T.H0 r' s' T.G H → Agree t.slots s s' → Q s' H
  | _ => False)
def tGs (K : PySem.W.Frag) (ts : List Tg) : TGs := fun vs s H Q => ∃ T ds, Rl K T s H ∧ RpOA K T.G vs ds ∧ (match setTs ts ds T.r with
  | .ok r' => ∀ s', Rel K T.G0 T.H0 r' s' T.G H → Agree (slotsAll ts) s s' → Q s' H
  | _ => False)
def EG (X : Cx) (e : Expr) (t : Tg) : Prop := PG X e (tG X.K t)
def EGs (X : Cx) (e : List Expr) (ts : List Tg) : Prop := PGs X e (tGs X.K ts)
theorem pg_imp {X : Cx} {e : Expr} {t t' : TG} (h : PG X e t) (i : ∀ v s H Q, t' v s H Q → t v s H Q) : PG X e t' := ⟨fun pins s σ H v u Q I rv q => h.run pins s σ H v u Q I rv (i _ _ _ _ q)⟩
theorem pgs_imp {X : Cx} {e : List Expr} {t t' : TGs} (h : PGs X e t) (i : ∀ v s H Q, t' v s H Q → t v s H Q) : PGs X e t' := ⟨fun pins s σ H v u Q I rv q => h.run pins s σ H v u Q I rv (i _ _ _ _ q)⟩
section
variable {X : Cx} {E : WX} {pos : Pos}
theorem pg_impL {X : Cx} {e : Expr} {t t' : TG} (h : PG X e t) (i : ∀ v s H Q, s.length = X.N.length → t' v s H Q → t v s H Q) : PG X e t' := ⟨fun pins s σ H v u Q I rv q => h.run pins s σ H v u Q I rv (i _ _ _ _ I.len q)⟩
theorem n_lt {N : List Str} {i : Nat} {x : Str} {s : St} (h : N[i]? = some x) (e : s.length = N.length) : i < s.length := by
  rw [e]
  exact (List.getElem?_eq_some_iff.mp h).1
theorem eg_name (i : Nat) {x : Str} (hN : X.N.Nodup) (hi : X.N[i]? = some x := by rfl) (hx : Loc X.env.scope x := by first | exact Or.inl rfl | exact Or.inr rfl) (hf : X.fn x = true ∨ X.env.scope.names.lookup x = some .local := by first | exact .inl rfl | exact .inr rfl | assumption) : EG X (.Name x pos) (.nm i) :=
  pg_impL (pg_name hN hi hx hf) fun v s H Q sl ⟨T, d, R, rv, h⟩ => by
    simp only [setT] at h
    cases e : decide (i < T.r.length) with
    | false => rw [e] at h; exact h.elim
    | true =>
      rw [e] at h
      exact h _ (R.setIm rv (n_lt hi sl)) ⟨List.length_set, fun j hj => List.getElem?_set_ne (fun z => hj (by simp [Tg.slots, z]))⟩
theorem egs_nil : EGs X [] [] := pgs_imp pgs_nil fun v s H Q ⟨T, ds, R, rv, h⟩ => by
  cases rv with
  | nil => exact ⟨rfl, h s R (Agree.refl _ _)⟩
  | cons _ _ => exact h.elim
theorem egs_cons {e : Expr} {es : List Expr} {t : Tg} {ts : List Tg} (h1 : EG X e t) (h2 : EGs X es ts) (hs : (assignEach (e :: es) X.env).map (·.2) = assign e X.env :: (assignEach es X.env).map (·.2) := by rfl) : EGs X (e :: es) (t :: ts) :=
  pgs_imp (pgs_cons h1 h2 hs) fun vs s H Q ⟨T, ds, R, rv, h⟩ => by
    cases rv with
    | nil => exact h.elim
    | @cons v vs d ds r1 r2 =>
      simp only [setTs] at h
      refine ⟨v, vs, rfl, T, d, R, r1, ?_⟩
      cases e1 : setT t d T.r with
      | ok r1' =>
        rw [e1] at h
        intro s1 R1 a1
        refine ⟨{ T with r := r1' }, ds, R1, r2, ?_⟩
        have h2 : (match setTs ts ds r1' with
          | .ok r' => ∀ s', Rel X.K T.G0 T.H0 r' s' T.G H → Agree (slotsAll (t :: ts)) s s' → Q s' H
          | _ => False) := h
        cases e2 : setTs ts ds r1' with
        | ok r2' =>
          rw [e2] at h2
          exact fun s2 R2 a2 => h2 s2 R2 (a1.trans a2)
        | err c => rw [e2] at h2; exact h2
        | stuck => rw [e2] at h2; exact h2
      | err c => rw [e1] at h; exact h
      | stuck => rw [e1] at h; exact h
theorem setTs_len : ∀ {ts : List Tg} {ds : List D} {r r' : Rho}, setTs ts ds r = .ok r' → ds.length = ts.length
  | [], [], _, _, _ => rfl
  | [], _ :: _, _, _, h => by simp [setTs] at h
  | _ :: _, [], _, _, h => by simp [setTs] at h
  | t :: ts, d :: ds, r, r', h => by
    simp only [setTs] at h
    cases e : setT t d r with
    | ok r1 =>
      rw [e] at h
      rw [List.length_cons, List.length_cons, setTs_len (show setTs ts ds r1 = .ok r' from h)]
    | err c => rw [e] at h; cases h
    | stuck => rw [e] at h; cases h
theorem pg_or {e : Expr} {t t' : TG} (h : PG X e t) (h' : PG X e t') : PG X e (fun v s H Q => t v s H Q ∨ t' v s H Q) := ⟨fun pins s σ H v u Q I rv q => by
  rcases q with q | q
  · exact h.run pins s σ H v u Q I rv q
  · exact h'.run pins s σ H v u Q I rv q⟩
theorem eg_tup {es : List Expr} {k : Nat} {ts : List Tg} (hc : X.calm = true) (h : EGs X es ts) (hn : (assignEach es X.env).length = ts.length := by rfl) (hst : (assignEach es X.env).findIdx? (·.1) = none := by rfl) : EG X (.Tuple es k pos) (.tp ts) :=
  pg_imp (pg_or (pg_tup hc h hn hst) (pg_lst hc h hn hst)) fun v s H Q ⟨T, d, R, rv, h⟩ => by
    cases d with
    | tup ds =>
      simp only [setT] at h
      cases rv with
      | pure rv =>
       cases rv with
       | tup h1 h2 =>
        cases e : setTs ts ds T.r with
        | ok r' =>
          refine .inl ⟨_, _, rfl, R.sqt h1, by rw [h2.length]; exact setTs_len e, T, ds, R, h2.o, ?_⟩
          rw [e] at h ⊢
          exact h
        | err c => rw [e] at h; exact h.elim
        | stuck => rw [e] at h; exact h.elim
    | lst ds =>
      simp only [setT] at h
      cases rv with
      | pure rv =>
       cases rv with
       | lst h1 h2 =>
        cases e : setTs ts ds T.r with
        | ok r' =>
          refine .inr ⟨_, _, rfl, SqL.of (R.at h1 rfl), by rw [h2.length]; exact setTs_len e, T, ds, R, h2.o, ?_⟩
          rw [e] at h ⊢
          exact h
        | err c => rw [e] at h; exact h.elim
        | stuck => rw [e] at h; exact h.elim
    | tpo ds =>
      simp only [setT] at h
      cases rv with
      | pure rv => cases rv
      | tpo h1 h2 =>
        cases e : setTs ts ds T.r with
        | ok r' =>
          refine .inl ⟨_, _, rfl, R.sqt h1, by rw [h2.length]; exact setTs_len e, T, ds, R, h2, ?_⟩
          rw [e] at h ⊢
          exact h
        | err c => rw [e] at h; exact h.elim
        | stuck => rw [e] at h; exact h.elim
    | _ => exact h.elim
def YD (K : PySem.W.Frag) (G : Hp) (d : D) (H : Hp) (x : V) (H' : Hp) : Prop := (H' = H ∧ RpO K G x d) ∨ ∃ T ys es, x = .ref T ∧ H T = none ∧ H' = upd H T (.tup ys) ∧ d = .tup es ∧ RpA K G ys es
def Wk (K : PySem.W.Frag) (J : It) (ds : List D) (G B : Hp) : Prop := Walk J ds.length (fun H => Ex B H) (fun i H x H' => ∃ d, ds[i]? = some d ∧ YD K G d H x H')
def tI (K : PySem.W.Frag) (mg : Str → Option Value) (E : WX) (ow : Bool) (f : Rho → R (List D)) : TI := fun s H Q => ∃ T, Rl K T s H ∧ KE K mg E T s H (fun ds G' H' => ∀ J B, Ex B H' → (ow = false → B = um G') → Wk K J ds G' B → Q J H') (f T.r)
def EI (X : Cx) (E : WX) (ow : Bool) (tg e : Expr) (f : Rho → R (List D)) : Prop := PI X tg e (tI X.K X.mg E ow f)
theorem pi_imp {X : Cx} {tg e : Expr} {t t' : TI} (h : PI X tg e t) (i : ∀ s H Q, t' s H Q → t s H Q) : PI X tg e t' := ⟨fun pins s σ H Q I q => h.run pins s σ H Q I (i _ _ _ q)⟩
theorem pi_or {X : Cx} {tg e : Expr} {t t' : TI} (h : PI X tg e t) (h' : PI X tg e t') : PI X tg e (fun s H Q => t s H Q ∨ t' s H Q) := ⟨fun pins s σ H Q I q => by
  rcases q with q | q
  · exact h.run pins s σ H Q I q
  · exact h'.run pins s σ H Q I q⟩
def signs (z : Str) : List D := z.cps.toList.map fun c => .str ⟨#[c]⟩
def itemsD (ow : Bool) (r : Rho) : D → R (List D)
  | .tup ds => .ok ds
  | .tpo ds => .ok ds
  | .lst ds => .ok ds
  | .scr ns => .ok (ns.map .int)
  | .str z => .ok (signs z)
  | .own i => if ow then (match r[i]? with
    | some (.ol ds) => .ok ds
    | _ => .stuck) else .stuck
  | _ => .stuck
theorem wk_list {K : PySem.W.Frag} {a : Addr} {xs : List V} {ds : List D} {G B : Hp} (h : SqL K B a xs) (r : RpA K G xs ds) : Wk K (Itl K a) ds G B := by
  unfold Wk
  rw [← r.length]
  refine walk_list.mono (fun H e => Same.seq e h) fun i H x H' hi e y => ?_
  obtain ⟨d, e1, e2⟩ := r.getV y.2
  exact ⟨d, e1, .inl ⟨y.1, .pure e2⟩⟩
theorem wk_tup {K : PySem.W.Frag} {a : Addr} {xs : List V} {ds : List D} {G B : Hp} (h : SqT K B a xs) (r : RpA K G xs ds) : Wk K (Itt K a) ds G B := by
  unfold Wk
  rw [← r.length]
  refine walk_tup.mono (fun H e => ex_t e h) fun i H x H' hi e y => ?_
  obtain ⟨d, e1, e2⟩ := r.getV y.2
  exact ⟨d, e1, .inl ⟨y.1, .pure e2⟩⟩
theorem wk_tupO {K : PySem.W.Frag} {a : Addr} {xs : List V} {ds : List D} {G B : Hp} (h : SqT K B a xs) (r : RpOA K G xs ds) : Wk K (Itt K a) ds G B := by
  unfold Wk
  rw [← r.length]
  refine walk_tup.mono (fun H e => ex_t e h) fun i H x H' hi e y => ?_
  obtain ⟨d, e1, e2⟩ := r.getV y.2
  exact ⟨d, e1, .inl ⟨y.1, e2⟩⟩
theorem wk_str {K : PySem.W.Frag} {z : Str} {G B : Hp} : Wk K (Its z) (signs z) G B := by
  unfold Wk
  have l : (signs z).length = z.cps.size := by unfold signs; rw [List.length_map, Array.length_toList]
  rw [l]
  refine walk_str.mono (fun H e => trivial) fun i H x H' hi e y => ?_
  obtain ⟨y1, c, y2, y3⟩ := y
  refine ⟨.str ⟨#[c]⟩, ?_, .inl ⟨y1, by rw [y3]; exact .pure (.str _)⟩⟩
  unfold signs
  rw [List.getElem?_map, Array.getElem?_toList, y2]
  rfl
theorem wk_range {K : PySem.W.Frag} {lo : Int} {n : Nat} {G B : Hp} : Wk K (Itr lo n) ((List.range n).map fun i => .int (lo + (i : Nat))) G B := by
  unfold Wk
  rw [List.length_map, List.length_range]
  refine walk_range.mono (fun H e => trivial) fun i H x H' hi e y => ?_
  refine ⟨.int (lo + (i : Nat)), ?_, .inl ⟨y.1, by rw [y.2]; exact .pure (.int _)⟩⟩
  rw [List.getElem?_map, List.getElem?_range hi]
  rfl
variable {a b : Expr} {fa fb : Rho → R D} {fs : Rho → R (List D)} {tg : Expr} {ow : Bool} {p tpos : Pos}
def fIt (ow : Bool) (fa : Rho → R D) (r : Rho) : R (List D) := (fa r).bnd (itemsD ow r)
theorem ei_seq (ha : EV X E a fa) : EI X E ow tg a (fIt ow fa) :=
  pi_imp (pi_or (pi_list ha) (pi_or (pi_tup ha) (pi_str ha))) fun s H Q ⟨T, R, h⟩ => by
    have first : ∀ (P : VK), (∀ d G1 H1 v, fa T.r = .ok d → Rel X.K T.G0 T.H0 T.r s G1 H1 → RpE X.K G1 s v d → KE X.K X.mg E { T with G := G1 } s H1 (fun ds G' H' => ∀ J B, Ex B H' → (ow = false → B = um G') → Wk X.K J ds G' B → Q J H') (itemsD ow T.r d) → P v H1) → tE X.K X.mg E fa s H P := fun P hp =>
      ⟨T, R, KE.bnd h fun d G1 H1 ed eg eh R1 h1 v rv => hp d G1 H1 v ed R1 rv h1⟩
    cases e : fa T.r with
    | err c =>
      refine .inl (first _ fun d G1 H1 v ed => ?_)
      rw [e] at ed
      cases ed
    | stuck =>
      refine .inl (first _ fun d G1 H1 v ed => ?_)
      rw [e] at ed
      cases ed
    | ok d =>
      cases d with
      | tup ds =>
        refine .inr (.inl (first _ fun d G1 H1 v ed R1 rv h1 => ?_))
        rw [e] at ed
        cases ed
        obtain ⟨a, xs, rfl, h2, h3, h4⟩ := tup_ok (T := { T with G := G1 }) R1 rv
        exact ⟨a, rfl, ⟨xs, h3⟩, KE.here (T := { T with G := G1 }) (d := ds) h1 R1 _ (um G1) R1.gh (fun _ => rfl) (wk_tup (um_t h2) h4)⟩
      | tpo ds =>
        refine .inr (.inl (first _ fun d G1 H1 v ed R1 rv h1 => ?_))
        rw [e] at ed
        cases ed
        cases (show RpO X.K G1 v (.tpo ds) from rv) with
        | pure r0 => cases r0
        | tpo h2 h4 => exact ⟨_, rfl, ⟨_, R1.sqt h2⟩, KE.here (T := { T with G := G1 }) (d := ds) h1 R1 _ (um G1) R1.gh (fun _ => rfl) (wk_tupO (um_t h2) h4)⟩
      | lst ds =>
        refine .inl (first _ fun d G1 H1 v ed R1 rv h1 => ?_)
        rw [e] at ed
        cases ed
        cases (show Rp X.K G1 v (.lst ds) from rv) with
        | lst h2 h4 => exact ⟨_, rfl, ⟨_, SqL.of (R1.at h2 rfl)⟩, KE.here (T := { T with G := G1 }) (d := ds) h1 R1 _ (um G1) R1.gh (fun _ => rfl) (wk_list (SqL.of (um_of h2 rfl)) h4)⟩
      | scr ns =>
        refine .inl (first _ fun d G1 H1 v ed R1 rv h1 => ?_)
        rw [e] at ed
        cases ed
        cases (show Rp X.K G1 v (.scr ns) from rv) with
        | scr h2 => exact ⟨_, rfl, ⟨_, R1.sql h2⟩, KE.here (T := { T with G := G1 }) (d := ns.map D.int) h1 R1 _ (um G1) R1.gh (fun _ => rfl) (wk_list (um_l h2) (RpA.ints ns))⟩
      | str z =>
        refine .inr (.inr (first _ fun d G1 H1 v ed R1 rv h1 => ?_))
        rw [e] at ed
        cases ed
        cases (show Rp X.K G1 v (.str z) from rv)
        exact ⟨z, rfl, KE.here (T := { T with G := G1 }) (d := signs z) h1 R1 _ (um G1) R1.gh (fun _ => rfl) wk_str⟩
      | own i =>
        refine .inl (first _ fun d G1 H1 v ed R1 rv h1 => ?_)
        rw [e] at ed
        cases ed
        cases ow with
        | false => exact h1.elim
        | true =>
          have h2 : KE X.K X.mg E { T with G := G1 } s H1 (fun ds G' H' => ∀ J B, Ex B H' → (true = false → B = um G') → Wk X.K J ds G' B → Q J H') (match T.r[i]? with
            | some (.ol ds) => .ok ds
            | _ => .stuck) := h1
          cases e2 : T.r[i]? with
          | none => rw [e2] at h2; exact h2.elim
          | some x =>
            rw [e2] at h2
            cases x with
            | ol ds =>
              obtain ⟨a, xs, rfl, h3, h4⟩ := own_list (T := { T with G := G1 }) R1 rv e2
              exact ⟨a, rfl, ⟨xs, SqL.of h3⟩, KE.here (T := { T with G := G1 }) (d := ds) h2 R1 _ H1 (Same.refl _) (fun z => by cases z) (wk_list (SqL.of h3) h4)⟩
            | _ => exact h2.elim
      | _ =>
        refine .inl (first _ fun d G1 H1 v ed R1 rv h1 => ?_)
        rw [e] at ed
        cases ed
        exact h1.elim
noncomputable def rangeD1 : List D → R (List D)
  | [.int j] => if okB (-(2 ^ 62) ≤ j ∧ j < 2 ^ 62) then .ok ((List.range j.toNat).map fun i => .int ((0 : Int) + (i : Nat))) else .stuck
  | _ => .stuck
def fRg (g : List D → R (List D)) (fs : Rho → R (List D)) (r : Rho) : R (List D) := (fs r).bnd g
theorem ei_range1 (hg : Gl X "range") (hm : X.mg "range" = none) (ha : EA X E [a] fs) (hs : starEach [a] X.env = [(false, eval a X.env)] := by rfl) : EI X E ow tg (.Call (.Name "range" p) [a] [] pos) (fRg rangeD1 fs) :=
  pi_imp (pi_range1 hg hm ha hs) fun s H Q ⟨T, R, h⟩ => ⟨T, R, KE.bnd h fun ds G1 H1 ed eg eh R1 h1 vs rvs => by
    cases rvs with
    | nil => exact h1.elim
    | @cons v vs d ds r1 r2 =>
      cases r2 with
      | cons _ _ => cases d <;> exact h1.elim
      | nil =>
        cases d with
        | int j =>
          cases r1
          simp only [rangeD1] at h1
          cases e : okB (-(2 ^ 62) ≤ j ∧ j < 2 ^ 62) with
          | false => rw [e] at h1; exact h1.elim
          | true =>
            rw [e] at h1
            have e2 := okB_iff.mp e
            exact ⟨j, rfl, e2.1, e2.2, KE.here (T := { T with G := G1 }) h1 R1 _ (um G1) R1.gh (fun _ => rfl) wk_range⟩
        | _ => exact h1.elim⟩
def viewB (ow : Bool) (r : Rho) : D → Option (Bool × List D)
  | .tup ds => some (true, ds)
  | .lst ds => some (false, ds)
  | .scr ns => some (false, ns.map .int)
  | .own i => if ow then (match r[i]? with
    | some (.ol ds) => some (false, ds)
    | _ => none) else none
  | _ => none
abbrev baseB (ow : Bool) (G H : Hp) : Hp := if ow = true then H else um G
theorem baseB_ex {ow : Bool} {G H : Hp} (e : Ex (um G) H) : Ex (baseB ow G H) H := by
  cases ow with
  | true => exact Same.refl _
  | false => exact e
theorem baseB_of {ow : Bool} {G H : Hp} (e : Ex (um G) H) : Ex (um G) (baseB ow G H) := by
  cases ow with
  | true => exact e
  | false => exact Same.refl _
theorem viewB_ok {K : PySem.W.Frag} {T : Stt} {s : St} {H : Hp} {v : V} {d : D} {b : Bool} {ds : List D} (R : Rl K T s H) (rv : RpE K T.G s v d) (h : viewB ow T.r d = some (b, ds)) : ∃ a xs, v = .ref a ∧ (if b = true then SqT K (baseB ow T.G H) a xs else SqL K (baseB ow T.G H) a xs) ∧ RpA K T.G xs ds := by
  cases d with
  | tup es =>
    cases h
    obtain ⟨a, xs, e1, e2, _, e3⟩ := tup_ok R rv
    exact ⟨a, xs, e1, ex_t (baseB_of R.gh) (um_t e2), e3⟩
  | lst es =>
    cases h
    cases (show Rp K T.G v (.lst ds) from rv) with
    | lst h1 h2 => exact ⟨_, _, rfl, SqL.of (baseB_of R.gh _ _ (um_of h1 rfl)), h2⟩
  | scr ns =>
    cases h
    cases (show Rp K T.G v (.scr ns) from rv) with
    | scr h1 => exact ⟨_, _, rfl, Same.seq (baseB_of R.gh) (um_l h1), RpA.ints ns⟩
  | own i =>
    cases ow with
    | false => cases h
    | true =>
      have h2 : (match T.r[i]? with
        | some (.ol ds) => some (false, ds)
        | _ => none) = some (b, ds) := h
      cases e : T.r[i]? with
      | none => rw [e] at h2; cases h2
      | some x =>
        rw [e] at h2
        cases x with
        | ol es =>
          cases h2
          obtain ⟨a, xs, e1, e2, e3⟩ := own_list R rv e
          exact ⟨a, xs, e1, SqL.of e2, e3⟩
        | _ => cases h2
  | _ => cases h
def pairD (x y : D) : D := .tup [x, y]
def zipD (ow : Bool) (r : Rho) : List D → R (List D)
  | [x, y] => match viewB ow r x, viewB ow r y with
    | some (_, xs), some (_, ys) => .ok (List.zipWith pairD xs ys)
    | _, _ => .stuck
  | _ => .stuck
theorem zip_get {K : PySem.W.Frag} {G : Hp} {xs ys : List V} {ds es : List D} (r1 : RpA K G xs ds) (r2 : RpA K G ys es) {i : Nat} {H : Hp} {v : V} {H' : Hp} (y : YPair (fun i => xs[i]?) (fun i => ys[i]?) i H v H') : ∃ d, (List.zipWith pairD ds es)[i]? = some d ∧ YD K G d H v H' := by
  obtain ⟨t, x, z, h1, h2, h3, h4, h5⟩ := y
  obtain ⟨d1, e1, e2⟩ := r1.getV h4
  obtain ⟨d2, e3, e4⟩ := r2.getV h5
  refine ⟨.tup [d1, d2], ?_, .inr ⟨t, [x, z], [d1, d2], h1, h2, h3, rfl, .cons e2 (.cons e4 .nil)⟩⟩
  rw [List.getElem?_zipWith, e1, e3]
  rfl
theorem exB {K : PySem.W.Frag} {b : Bool} {G H : Hp} {a : Addr} {xs : List V} (e : Ex G H) (h : SqB K b G a xs) : SqB K b H a xs := by
  cases b with
  | true => exact ex_t e h
  | false => exact Same.seq e h
theorem wk_zipM {K : PySem.W.Frag} {b1 b2 : Bool} {a b : Addr} {xs ys : List V} {ds es : List D} {G B : Hp} (h1 : SqB K b1 B a xs) (h2 : SqB K b2 B b ys) (r1 : RpA K G xs ds) (r2 : RpA K G ys es) : Wk K (ItzM K b1 b2 a b) (List.zipWith pairD ds es) G B := by
  unfold Wk
  rw [List.length_zipWith, ← r1.length, ← r2.length]
  refine ⟨fun i H hi e => ?_, fun H e => ⟨xs, ys, exB e h1, exB e h2, by omega, by omega, by omega⟩, fun i H v H' hi e y => ?_⟩
  · have l1 : i < xs.length := by omega
    have l2 : i < ys.length := by omega
    exact ⟨xs, ys, xs[i], ys[i], exB e h1, exB e h2, by simp [l1], by simp [l2]⟩
  · obtain ⟨t, x, z, q1, q2, q3, q4, q5⟩ := y
    exact zip_get r1 r2 ⟨t, x, z, q1, q2, q3, q4 xs (exB e h1), q5 ys (exB e h2)⟩
def fZip (ow : Bool) (fs : Rho → R (List D)) (r : Rho) : R (List D) := (fs r).bnd (zipD ow r)
theorem ei_zip {elts : List Expr} {kk : Nat} (hg : Gl X "zip") (hm : X.mg "zip" = none) (ha : EB X E [a, b] fs)
    (hs : starEach [a, b] X.env = (false, eval a X.env) :: starEach [b] X.env := by rfl) (hpl : (backTo pos (starEach [b] X.env)).any (·.1) = false := by rfl) : EI X E ow (.Tuple elts kk tpos) (.Call (.Name "zip" p) [a, b] [] pos) (fZip ow fs) :=
  pi_imp (pi_zipM hg hm ha hs hpl) fun s H Q ⟨T, R, h⟩ => ⟨T, R, KE.bnd h fun ds G1 H1 ed eg eh R1 h1 vs rvs => by
    cases rvs with
    | nil => exact h1.elim
    | @cons v vs d ds r1 r2 =>
      cases r2 with
      | nil => exact h1.elim
      | @cons v2 vs2 d2 ds2 r3 r4 =>
        cases r4 with
        | cons _ _ => exact h1.elim
        | nil =>
          simp only [zipD] at h1
          cases e1 : viewB ow T.r d with
          | none => rw [e1] at h1; exact h1.elim
          | some q1 =>
            obtain ⟨b1, xs1⟩ := q1
            cases e2 : viewB ow T.r d2 with
            | none => rw [e1, e2] at h1; exact h1.elim
            | some q2 =>
              obtain ⟨b2, xs2⟩ := q2
              rw [e1, e2] at h1
              simp only at h1
              obtain ⟨a1, ys1, rfl, g1, k1⟩ := viewB_ok (T := { T with G := G1 }) R1 r1 e1
              obtain ⟨a2, ys2, rfl, g2, k2⟩ := viewB_ok (T := { T with G := G1 }) R1 r3 e2
              have bb : ow = false → baseB ow G1 H1 = um G1 := fun z => by rw [z]; rfl
              exact ⟨b1, b2, a1, a2, ys1, ys2, rfl, exB (baseB_ex R1.gh) g1, exB (baseB_ex R1.gh) g2, KE.here (T := { T with G := G1 }) h1 R1 _ (baseB ow G1 H1) (baseB_ex R1.gh) bb (wk_zipM g1 g2 k1 k2)⟩⟩
def enumFrom : Nat → List D → List D
  | _, [] => []
  | n, d :: ds => .tup [.int (n : Nat), d] :: enumFrom (n + 1) ds
theorem enumFrom_len : ∀ (n : Nat) (ds : List D), (enumFrom n ds).length = ds.length
  | _, [] => rfl
  | n, d :: ds => by rw [enumFrom, List.length_cons, List.length_cons, enumFrom_len]
theorem enumFrom_get : ∀ (n : Nat) (ds : List D) (i : Nat) (d : D), ds[i]? = some d → (enumFrom n ds)[i]? = some (.tup [.int ((n + i : Nat) : Int), d])
  | _, [], _, _, h => by simp at h
  | n, e :: ds, 0, d, h => by simp at h; subst h; rfl
  | n, e :: ds, i + 1, d, h => by
    have q := enumFrom_get (n + 1) ds i d (by simpa using h)
    rw [enumFrom, List.getElem?_cons_succ, q]
    congr 5
    omega
def enumD (ow : Bool) (r : Rho) : List D → R (List D)
  | [x] => match viewB ow r x with
    | some (_, xs) => .ok (enumFrom 0 xs)
    | _ => .stuck
  | _ => .stuck
theorem wk_enum {K : PySem.W.Frag} {b : Bool} {a : Addr} {xs : List V} {ds : List D} {G B : Hp} (h1 : SqB K b B a xs) (r1 : RpA K G xs ds) : Wk K (IteB K b a) (enumFrom 0 ds) G B := by
  unfold Wk
  rw [enumFrom_len, ← r1.length]
  refine ⟨fun i H hi e => ?_, fun H e => ⟨xs, exB e h1, rfl⟩, fun i H v H' hi e y => ?_⟩
  · exact ⟨xs, xs[i], exB e h1, by simp [hi]⟩
  · obtain ⟨t, z, q1, q2, q3, q5⟩ := y
    have q5 := q5 xs (exB e h1)
    obtain ⟨d2, e3, e4⟩ := r1.getV q5
    refine ⟨_, enumFrom_get 0 ds i d2 e3, .inr ⟨t, [.int (i : Nat), z], [_, d2], q1, q2, q3, rfl, .cons ?_ (.cons e4 .nil)⟩⟩
    rw [Nat.zero_add]
    exact .int _
def fEnum (ow : Bool) (fs : Rho → R (List D)) (r : Rho) : R (List D) := (fs r).bnd (enumD ow r)
theorem ei_enum {elts : List Expr} {kk : Nat} (hg : Gl X "enumerate") (hm : X.mg "enumerate" = none) (ha : EB X E [a] fs) (hs : starEach [a] X.env = [(false, eval a X.env)] := by rfl) : EI X E ow (.Tuple elts kk tpos) (.Call (.Name "enumerate" p) [a] [] pos) (fEnum ow fs) :=
  pi_imp (pi_enumB hg hm ha hs) fun s H Q ⟨T, R, h⟩ => ⟨T, R, KE.bnd h fun ds G1 H1 ed eg eh R1 h1 vs rvs => by
    cases rvs with
    | nil => exact h1.elim
    | @cons v vs d ds r1 r2 =>
      cases r2 with
      | cons _ _ => exact h1.elim
      | nil =>
        simp only [enumD] at h1
        cases e1 : viewB ow T.r d with
        | none => rw [e1] at h1; exact h1.elim
        | some q1 =>
          obtain ⟨b1, xs1⟩ := q1
          rw [e1] at h1
          obtain ⟨a1, ys1, rfl, g1, k1⟩ := viewB_ok (T := { T with G := G1 }) R1 r1 e1
          have bb : ow = false → baseB ow G1 H1 = um G1 := fun z => by rw [z]; rfl
          exact ⟨b1, a1, ys1, rfl, exB (baseB_ex R1.gh) g1, KE.here (T := { T with G := G1 }) h1 R1 _ (baseB ow G1 H1) (baseB_ex R1.gh) bb (wk_enum g1 k1)⟩⟩
end
end PL
end
section
namespace PL
open PySem PySem.Spec PyProof.Rows L2
def noE {α : Type} : R α → R α
  | .err _ => .stuck
  | x => x
theorem noE_ok {α : Type} {x : R α} {a : α} (h : noE x = .ok a) : x = .ok a := by
  cases x with
  | ok b => exact h
  | err c => cases h
  | stuck => cases h
def lcGo (t : Tg) (ft : Rho → R Bool) (fe : Rho → R D) (r : Rho) : List D → R (List D)
  | [] => .ok []
  | d :: ds => (noE (setT t d r)).bnd fun r2 => (noE (ft r2)).bnd fun b => if b then (noE (fe r2)).bnd fun y => (imD y).bnd fun y => (lcGo t ft fe r ds).bnd fun ys => .ok (y :: ys) else lcGo t ft fe r ds
theorem bnd_eq_ok {α β : Type} {x : R α} {k : α → R β} {b : β} (h : x.bnd k = .ok b) : ∃ a, x = .ok a ∧ k a = .ok b := by
  cases x with
  | ok a => exact ⟨a, rfl, h⟩
  | err c => cases h
  | stuck => cases h
theorem lcGo_noerr {t : Tg} {ft : Rho → R Bool} {fe : Rho → R D} {r : Rho} : ∀ {ds : List D} {c : Str}, lcGo t ft fe r ds ≠ .err c
  | [], c, h => by cases h
  | d :: ds, c, h => by
    have ih := fun c => lcGo_noerr (t := t) (ft := ft) (fe := fe) (r := r) (ds := ds) (c := c)
    unfold lcGo at h
    cases e1 : setT t d r with
    | err c => rw [e1] at h; cases h
    | stuck => rw [e1] at h; cases h
    | ok r2 =>
      rw [e1] at h
      have h2 : ((noE (ft r2)).bnd fun b => if b then (noE (fe r2)).bnd fun y => (imD y).bnd fun y => (lcGo t ft fe r ds).bnd fun ys => .ok (y :: ys) else lcGo t ft fe r ds) = .err c := h
      cases e2 : ft r2 with
      | err c => rw [e2] at h2; cases h2
      | stuck => rw [e2] at h2; cases h2
      | ok b =>
        rw [e2] at h2
        cases b with
        | false => exact ih c h2
        | true =>
          have h3 : ((noE (fe r2)).bnd fun y => (imD y).bnd fun y => (lcGo t ft fe r ds).bnd fun ys => .ok (y :: ys)) = .err c := h2
          cases e3 : fe r2 with
          | err c => rw [e3] at h3; cases h3
          | stuck => rw [e3] at h3; cases h3
          | ok y =>
            rw [e3] at h3
            have h4 : ((imD y).bnd fun y => (lcGo t ft fe r ds).bnd fun ys => .ok (y :: ys)) = .err c := h3
            unfold imD at h4
            cases e4 : noOwn y with
            | false => rw [e4] at h4; cases h4
            | true =>
              rw [e4] at h4
              have h5 : ((lcGo t ft fe r ds).bnd fun ys => .ok (y :: ys)) = .err c := h4
              cases e5 : lcGo t ft fe r ds with
              | ok ys => rw [e5] at h5; cases h5
              | stuck => rw [e5] at h5; cases h5
              | err c' => exact ih c' e5
def fLc (vs : List Nat) (t : Tg) (fi : Rho → R (List D)) (ft : Rho → R Bool) (fe : Rho → R D) (r : Rho) : R (List D) := (fi r).bnd fun ds => if decide (ds.length < sizeLine) then lcGo t ft fe (wipeR r vs) ds else .stuck
def AgreeR (is : List Nat) (s s' : Rho) : Prop := s'.length = s.length ∧ ∀ i, i ∉ is → s'[i]? = s[i]?
mutual
theorem setT_agree : ∀ {t : Tg} {d : D} {r r' : Rho}, setT t d r = .ok r' → AgreeR t.slots r r'
  | .nm i, d, r, r', h => by
    simp only [setT] at h
    cases e : decide (i < r.length) with
    | false => rw [e] at h; cases h
    | true =>
      rw [e] at h
      cases h
      exact ⟨List.length_set, fun j hj => List.getElem?_set_ne (fun z => hj (by simp [Tg.slots, z]))⟩
  | .tp ts, .tup ds, r, r', h => by
    simp only [setT] at h
    exact setTs_agree (ts := ts) h
  | .tp ts, .non, r, r', h => by cases h
  | .tp ts, .bl _, r, r', h => by cases h
  | .tp ts, .int _, r, r', h => by cases h
  | .tp ts, .str _, r, r', h => by cases h
  | .tp ts, .lst ds, r, r', h => by
    simp only [setT] at h
    exact setTs_agree (ts := ts) h
  | .tp ts, .dic _, r, r', h => by cases h
  | .tp ts, .own _, r, r', h => by cases h
  | .tp ts, .scr _, r, r', h => by cases h
  | .tp ts, .exc _, r, r', h => by cases h
  | .tp ts, .fn _, r, r', h => by cases h
  | .tp ts, .obj _, r, r', h => by cases h
  | .tp ts, .tpo ds, r, r', h => by
    simp only [setT] at h
    exact setTs_agree (ts := ts) h
theorem setTs_agree : ∀ {ts : List Tg} {ds : List D} {r r' : Rho}, setTs ts ds r = .ok r' → AgreeR (slotsAll ts) r r'
  | [], [], r, r', h => by cases h; exact ⟨rfl, fun _ _ => rfl⟩
  | [], _ :: _, _, _, h => by simp [setTs] at h
  | _ :: _, [], _, _, h => by simp [setTs] at h
  | t :: ts, d :: ds, r, r', h => by
    simp only [setTs] at h
    obtain ⟨r1, e1, e2⟩ := bnd_eq_ok h
    have a1 := setT_agree (t := t) e1
    have a2 := setTs_agree (ts := ts) e2
    exact ⟨a2.1.trans a1.1, fun i hi => (a2.2 i fun z => hi (List.mem_append_right _ z)).trans (a1.2 i fun z => hi (List.mem_append_left _ z))⟩
end
theorem wipeR_length (s : Rho) : ∀ vs : List Nat, (wipeR s vs).length = s.length
  | [] => rfl
  | v :: vs => by unfold wipeR; rw [List.length_set, wipeR_length s vs]
theorem wipeR_get (s : Rho) : ∀ (vs : List Nat) (i : Nat), (wipeR s vs)[i]? = if i ∈ vs then (s[i]?.map fun _ => .un) else s[i]?
  | [], i => by simp [wipeR]
  | v :: vs, i => by
    show ((wipeR s vs).set v .un)[i]? = _
    by_cases e : v = i
    · subst e
      rw [if_pos List.mem_cons_self]
      by_cases h : v < (wipeR s vs).length
      · rw [List.getElem?_set_self h]
        rw [wipeR_length] at h
        rw [List.getElem?_eq_getElem h]
        rfl
      · rw [List.getElem?_eq_none (by rw [List.length_set]; omega)]
        rw [wipeR_length] at h
        rw [List.getElem?_eq_none (by omega)]
        rfl
    · rw [List.getElem?_set_ne e, wipeR_get s vs i]
      by_cases m : i ∈ vs
      · rw [if_pos m, if_pos (List.mem_cons_of_mem _ m)]
      · rw [if_neg m, if_neg (fun z => by rcases List.mem_cons.mp z with z | z; exact e z.symm; exact m z)]
theorem AgreeR.wipe {is vs : List Nat} {s s' : Rho} (a : AgreeR is s s') (h : ∀ i ∈ is, i ∈ vs) : wipeR s' vs = wipeR s vs := by
  apply List.ext_getElem?
  intro i
  rw [wipeR_get, wipeR_get]
  by_cases m : i ∈ vs
  · rw [if_pos m, if_pos m]
    have l := a.1
    by_cases h1 : i < s.length
    · rw [List.getElem?_eq_getElem h1, List.getElem?_eq_getElem (by omega : i < s'.length)]
      rfl
    · rw [List.getElem?_eq_none (by omega), List.getElem?_eq_none (by omega)]
  · rw [if_neg m, if_neg m]
    exact a.2 i fun z => m (h i z)
theorem wipeR_idem (s : Rho) (vs : List Nat) : wipeR (wipeR s vs) vs = wipeR s vs := AgreeR.wipe (is := vs) ⟨wipeR_length s vs, fun i hi => by rw [wipeR_get, if_neg hi]⟩ (fun _ h => h)
theorem lc_red {K : PySem.W.Frag} {mg : Str → Option Value} {E : WX} {vs : List Nat} {t : Tg} {fi : Rho → R (List D)} {ft : Rho → R Bool} {fe : Rho → R D} (hsl : ∀ i ∈ t.slots, i ∈ vs) {s : St} {H : Hp} {Q : VK} (hvs : ∀ i ∈ vs, i < s.length) (h : tN K mg E (fLc vs t fi ft fe) s H Q) :
    tLc (tI K mg E true fi) (tG K t) (tT K mg EZ ft) (tE K mg EZ fe) vs s H Q := by
  obtain ⟨T, R, h⟩ := h
  unfold fLc at h
  refine ⟨T, R, ?_⟩
  cases ei : fi T.r with
  | err c => rw [ei] at h; exact h
  | stuck => rw [ei] at h; exact h
  | ok ds =>
    rw [ei] at h
    intro G1 H1 eg eh nw1 R1 J B eB _ wk Dl hD
    have h1 : KE K mg E T s H (fun ds G' H' => ∀ p xs, H p = none → H' p = some (.lst xs) → G' p = none → RpA K G' xs ds → Q (.ref p) H') (if decide (ds.length < sizeLine) then lcGo t ft fe (wipeR T.r vs) ds else .stuck) := h
    cases el : decide (ds.length < sizeLine) with
    | false => rw [el] at h1; exact h1.elim
    | true =>
      rw [el] at h1
      have len := of_decide_eq_true el
      cases eo : lcGo t ft fe (wipeR T.r vs) ds with
      | err c => exact absurd eo lcGo_noerr
      | stuck => rw [if_pos rfl, eo] at h1; exact h1.elim
      | ok zs =>
        rw [if_pos rfl, eo] at h1
        have hB : B Dl = none := eB.free hD
        have h0D : T.H0 Dl = none := R1.hh.free hD
        have own1 : ∀ i, ¬ OwnAt (wipeR T.r vs) (L2.wipe s vs) i Dl := fun i o => by
          obtain ⟨⟨u, e⟩, _⟩ := own_in (R1.wipe vs hvs) o
          rw [e] at hD
          cases hD
        refine lc_it wk (fun i H' => ∃ G' acc ys zs', Rel K T.G0 T.H0 (wipeR T.r vs) (L2.wipe s vs) G' H' ∧ Ex G1 G' ∧ Ex H1 H' ∧ Nw G1 G' H1 ∧ Ex B H' ∧ H' Dl = some (.lst acc) ∧ G' Dl = none ∧ RpA K G' acc ys ∧ lcGo t ft fe (wipeR T.r vs) (ds.drop i) = .ok zs' ∧ ys ++ zs' = zs ∧ ys.length ≤ i ∧ Rel K T.G0 T.H0 T.r s G' H') ?_ ?_ ?_ ?_
        · exact ⟨G1, [], [], zs, (R1.wipe vs hvs).lay hD, Same.refl _, ex_new hD, Nw.refl _ _, ex_into eB hB, upd_same, R1.gf _ hD, .nil, by rw [List.drop_zero]; exact eo, rfl, Nat.le_refl _, R1.lay hD⟩
        · rintro i H' _ ⟨G', acc, ys, zs', _, _, _, _, e, _⟩
          exact e
        · rintro i x H2 H3 hi ⟨G', acc, ys, zs', R2, eg2, eh2, nw2, eB2, hl, hg, ra, go, ez, yl, R2o⟩ ⟨d, hd, yd⟩
          have dr : ds.drop i = d :: ds.drop (i + 1) := by
            have hlt := (List.getElem?_eq_some_iff.mp hd).1
            rw [List.drop_eq_getElem_cons hlt]
            congr 1
            exact (List.getElem?_eq_some_iff.mp hd).2
          rw [dr] at go
          simp only [lcGo] at go
          obtain ⟨r2, g1, go⟩ := bnd_eq_ok go
          obtain ⟨b, g2, go⟩ := bnd_eq_ok go
          have g1 := noE_ok g1
          have g2 := noE_ok g2
          obtain ⟨G3, R3, R3o, rx, eg3, eh3, nw3⟩ : ∃ G3, Rel K T.G0 T.H0 (wipeR T.r vs) (L2.wipe s vs) G3 H3 ∧ Rel K T.G0 T.H0 T.r s G3 H3 ∧ RpO K G3 x d ∧ Ex G' G3 ∧ Ex H2 H3 ∧ Nw G' G3 H2 := by
            rcases yd with ⟨e1, e2⟩ | ⟨p, ys, es, e1, e2, e3, e4, e5⟩
            · subst e1
              exact ⟨G', R2, R2o, e2.mono eg2, Same.refl _, Same.refl _, Nw.refl _ _⟩
            · subst e1 e3 e4
              have xg : Ex G' (upd G' p (.tup ys)) := ex_new (R2.gf _ e2)
              exact ⟨upd G' p (.tup ys), R2.new e2, R2o.new e2, .pure (.tup (SqT.of upd_same) ((e5.mono eg2).mono xg)), xg, ex_new e2, Nw.new e2⟩
          have ag := setT_agree g1
          refine ⟨⟨T.G0, T.H0, wipeR T.r vs, G3⟩, d, R3, rx, ?_⟩
          show (match setT t d (wipeR T.r vs) with
            | .ok r' => _
            | _ => False)
          rw [g1]
          intro s4 R4 a4
          have w4 : L2.wipe s4 vs = L2.wipe s vs := (Agree.wipe a4 hsl).trans (wipe_idem s vs)
          have wr : wipeR r2 vs = wipeR T.r vs := (AgreeR.wipe ag hsl).trans (wipeR_idem T.r vs)
          refine ⟨w4, ⟨T.G0, T.H0, r2, G3⟩, R4, ?_⟩
          show KE K mg EZ ⟨T.G0, T.H0, r2, G3⟩ s4 H3 _ (ft r2)
          rw [g2]
          intro G5 H5 eg5 eh5 nw5 R5
          have hl3 : H5 Dl = some (.lst acc) := eh5 _ _ (eh3 _ _ hl)
          have g5D : G5 Dl = none := by
            cases q : G5 Dl with
            | none => rfl
            | some o =>
              cases q3 : G3 Dl with
              | none =>
                have z := nw5.st Dl o q q3
                rw [eh3 _ _ hl] at z
                cases z
              | some o3 =>
                have z := nw3.st Dl o3 q3 hg
                rw [hl] at z
                cases z
          have stepO : ∀ {G6 H6 : Hp}, Rel K T.G0 T.H0 r2 s4 G6 H6 → Ex G5 G6 → Ex H5 H6 → Nw G5 G6 H5 → Rel K T.G0 T.H0 T.r s G6 H6 ∧ Rel K T.G0 T.H0 (wipeR T.r vs) (L2.wipe s vs) G6 H6 := fun {G6 H6} R6 e1 e2 n6 => by
            have RW := R6.wipe vs (fun i hi => by rw [a4.1, wipe_length]; exact hvs i hi)
            rw [wr, w4] at RW
            have n36 : Nw G3 G6 H3 := Nw.trans nw5 n6 eh5
            exact ⟨R3o.step (eg5.trans e1) (eh5.trans e2) R6.gh n36, RW⟩
          cases b with
          | false =>
            show ∃ G' acc ys zs', _
            obtain ⟨RO, RW⟩ := stepO R5 (Same.refl _) (Same.refl _) (Nw.refl _ _)
            refine ⟨G5, acc, ys, zs', RW, (eg2.trans eg3).trans eg5, (eh2.trans eh3).trans eh5, ?_, (eB2.trans eh3).trans eh5, hl3, g5D, (ra.mono eg3).mono eg5, go, ez, by omega, RO⟩
            exact Nw.trans (Nw.trans nw2 nw3 eh2) nw5 (eh2.trans eh3)
          | true =>
            have go' : ((noE (fe r2)).bnd fun y => (imD y).bnd fun y => (lcGo t ft fe (wipeR T.r vs) (ds.drop (i + 1))).bnd fun ys => .ok (y :: ys)) = .ok zs' := go
            obtain ⟨y, g3, go2⟩ := bnd_eq_ok go'
            obtain ⟨y', g4, go3⟩ := bnd_eq_ok go2
            obtain ⟨ys2, g5, go4⟩ := bnd_eq_ok go3
            have g3 := noE_ok g3
            obtain ⟨ey, no⟩ := imD_ok g4
            have ezz : y' :: ys2 = zs' := PL.R.ok.inj go4
            subst ey
            subst ezz
            show tE K mg EZ fe s4 H5 _
            refine ⟨⟨T.G0, T.H0, r2, G5⟩, R5, ?_⟩
            show KE K mg EZ ⟨T.G0, T.H0, r2, G5⟩ s4 H5 _ (fe r2)
            rw [g3]
            intro G6 H6 eg6 eh6 nw6 R6 v rv
            have hl6 : H6 Dl = some (.lst acc) := eh6 _ _ hl3
            have g6D : G6 Dl = none := by
              cases q : G6 Dl with
              | none => rfl
              | some o =>
                have z := nw6.st Dl o q g5D
                rw [hl3] at z
                cases z
            obtain ⟨RO, RW⟩ := stepO R6 eg6 eh6 nw6
            have ra6 : RpA K G6 acc ys := ((ra.mono eg3).mono eg5).mono eg6
            have own2 : ∀ i, ¬ OwnAt T.r s i Dl := fun i o => by
              obtain ⟨⟨u, e⟩, _⟩ := own_in R1 o
              rw [e] at hD
              cases hD
            refine ⟨acc, hl6, ?_, G6, acc ++ [v], ys ++ [y'], ys2, RW.mut g6D h0D own1, ((eg2.trans eg3).trans eg5).trans eg6, ?_, ?_, ?_, upd_same, g6D, ra6.snoc (RpE.im no rv), g5, ?_, ?_, RO.mut g6D h0D own2⟩
            · have := ra.length
              omega
            · exact ex_into (((eh2.trans eh3).trans eh5).trans eh6) hD
            · exact Nw.trans (Nw.trans (Nw.trans nw2 nw3 eh2) nw5 (eh2.trans eh3)) nw6 ((eh2.trans eh3).trans eh5)
            · exact ex_into (((eB2.trans eh3).trans eh5).trans eh6) hB
            · rw [List.append_assoc]
              exact ez
            · rw [List.length_append]
              simp only [List.length_cons, List.length_nil]
              omega
        · rintro H' ⟨G', acc, ys, zs', R2, eg2, eh2, nw2, eB2, hl, hg, ra, go, ez, yl, R2o⟩
          have dn : ds.drop ds.length = [] := List.drop_length
          rw [dn] at go
          cases go
          rw [List.append_nil] at ez
          subst ez
          exact h1 G' H' (eg.trans eg2) (eh.trans eh2) (Nw.trans nw1 nw2 eh) R2o Dl acc (eh.free hD) hl hg ra
section
variable {X : Cx} {E : WX} {pos : Pos} {elt tg iter : Expr} {ifs : List Expr} {scope : Scope} {fi : Rho → R (List D)} {ft : Rho → R Bool} {fe : Rho → R D} {t : Tg}
def ETs (X : Cx) (E : WX) (ifs : List Expr) (f : Rho → R Bool) : Prop := PTs X ifs (tT X.K X.mg E f)
theorem pts_imp {X : Cx} {e : List Expr} {t t' : TT} (h : PTs X e t) (i : ∀ s H Q, t' s H Q → t s H Q) : PTs X e t' := ⟨fun pins s σ H Q I q => h.run pins s σ H Q I (i _ _ _ q)⟩
theorem ets_nil : ETs X E [] (fun _ => .ok true) := pts_imp pts_nil fun s H Q ⟨T, R, h⟩ => KE.here h R
theorem ets_one {c : Expr} (h : ET X E c ft) : ETs X E [c] ft := pts_one h
theorem blk_lt {N : List Str} {sc scope : Scope} {own : List (Str × Nat)} {s : St} (ok : BlkOk N sc scope own) (e : s.length = N.length) : ∀ i ∈ own.map (·.2), i < s.length := fun i hi => by
  obtain ⟨p, hp, rfl⟩ := List.mem_map.mp hi
  exact n_lt (ok.ix p hp) e
theorem en_lc (own : List (Str × Nat)) (hc : X.calm = true) (hN : X.N.Nodup) (hi : EI X E true tg iter fi) (ok : BlkOk X.N X.env.scope scope own)
    (hg : ∀ (s : Shared) (H : Hp) (C : Addr) (cl : List (Str × Addr)) (fp : List Addr), EG (X.blk s H scope (compEnvC scope cl C X.env) fp) tg t) (ht : ∀ (s : Shared) (H : Hp) (C : Addr) (cl : List (Str × Addr)) (fp : List Addr), ETs (X.blk s H scope (compEnvC scope cl C X.env) fp) EZ ifs ft)
    (he : ∀ (s : Shared) (H : Hp) (C : Addr) (cl : List (Str × Addr)) (fp : List Addr), EV (X.blk s H scope (compEnvC scope cl C X.env) fp) EZ elt fe) (hsl : (t.slots.all fun i => (own.map (·.2)).contains i) = true := by rfl) (hs : ∀ x, foldedSetIterable iter X.env x = pure x := by intro _; rfl) :
    EN X E (.ListComp elt [⟨tg, iter, ifs, 0⟩] scope pos) (fLc (own.map (·.2)) t fi ft fe) :=
  pe_impL (pe_lc (g := tG X.K t) (tt := tT X.K X.mg EZ ft) (te := tE X.K X.mg EZ fe) hc hN hi ok hg ht he hs) fun s H Q sl h => lc_red (fun i hi => by
    have := List.all_eq_true.mp hsl i hi
    simpa using this) (blk_lt ok sl) h
end
end PL
end
section
namespace PL
open PySem PySem.Spec PyProof.Rows L2
inductive Fl where
  | nx (r : Rho) | bk (r : Rho) | ct (r : Rho) | rt (d : D) | rm (d : D) (os : List Ob)
def KS (K : PySem.W.Frag) (mg : Str → Option Value) (E : WX) (T : Stt) (Z : Ends) : R Fl → Prop
  | .ok (.nx r') => ∀ s' G' H', Ex T.G G' → Rel K T.G0 T.H0 r' s' G' H' → Z.nx s' H'
  | .ok (.bk r') => ∀ s' G' H', Ex T.G G' → Rel K T.G0 T.H0 r' s' G' H' → Z.bk s' H'
  | .ok (.ct r') => ∀ s' G' H', Ex T.G G' → Rel K T.G0 T.H0 r' s' G' H' → Z.ct s' H'
  | .ok (.rt d) => ∀ v G' H', Ex T.G0 G' → Ex T.H0 H' → Ex (um G') H' → (∀ a, H' a = none → G' a = none) → (∀ a o, G' a = some o → T.G0 a = none → T.H0 a = none) → Rp K G' v d → Z.rt v H'
  | .ok (.rm d os) => ∀ v G' H', Ex T.G0 G' → Ex T.H0 H' → Ex (um G') H' → (∀ a, H' a = none → G' a = none) → (∀ a o, G' a = some o → T.G0 a = none → T.H0 a = none) → StOk K T.H0 G' H' true os → RpO K G' v d → Z.rt v H'
  | .err c => ∀ s' H', Ex T.H0 H' → E (clsV mg c) none s' H'
  | .stuck => False
def tS (K : PySem.W.Frag) (mg : Str → Option Value) (E : WX) (f : Rho → R Fl) : TS := fun Z s H => ∃ T, Rl K T s H ∧ KS K mg E T Z (f T.r)
def SS (X : Cx) (E : WX) (st : Stmt) (f : Rho → R Fl) : Prop := PS X st (tS X.K X.mg E f)
def SSs (X : Cx) (E : WX) (st : List Stmt) (f : Rho → R Fl) : Prop := PSs X st (tS X.K X.mg E f)
theorem ps_imp {X : Cx} {e : Stmt} {t t' : TS} (h : PS X e t) (i : ∀ Z s H, t' Z s H → t Z s H) : PS X e t' := ⟨fun pins s σ H Z I q => h.run pins s σ H Z I (i _ _ _ q)⟩
theorem ps_impL {X : Cx} {e : Stmt} {t t' : TS} (h : PS X e t) (i : ∀ Z s H, s.length = X.N.length → t' Z s H → t Z s H) : PS X e t' := ⟨fun pins s σ H Z I q => h.run pins s σ H Z I (i _ _ _ I.len q)⟩
theorem pss_imp {X : Cx} {e : List Stmt} {t t' : TS} (h : PSs X e t) (i : ∀ Z s H, t' Z s H → t Z s H) : PSs X e t' := ⟨fun pins s σ H Z I q => h.run pins s σ H Z I (i _ _ _ q)⟩
section
variable {K : PySem.W.Frag} {mg : Str → Option Value} {E : WX}
theorem KS.mono {T T' : Stt} {Z : Ends} {x : R Fl} (h : KS K mg E T Z x) (e0 : T'.G0 = T.G0) (e1 : T'.H0 = T.H0) (e : Ex T.G T'.G) : KS K mg E T' Z x := by
  obtain ⟨g0, h0, r, g⟩ := T
  obtain ⟨g0', h0', r', g'⟩ := T'
  simp only at e0 e1 e
  subst e0 e1
  cases x with
  | ok f =>
    cases f with
    | nx r' => exact fun s' G' H' a b => h s' G' H' (e.trans a) b
    | bk r' => exact fun s' G' H' a b => h s' G' H' (e.trans a) b
    | ct r' => exact fun s' G' H' a b => h s' G' H' (e.trans a) b
    | rt d => exact h
    | rm d os => exact h
  | err c => exact h
  | stuck => exact h
theorem KS.bnd {α : Type} {T : Stt} {Z : Ends} {s : St} {H : Hp} {x : R α} {k : α → R Fl} {P : α → Hp → Hp → Prop} (h : KS K mg E T Z (x.bnd k))
    (hk : ∀ d G' H', x = .ok d → Ex T.G G' → Ex H H' → Rel K T.G0 T.H0 T.r s G' H' → KS K mg E { T with G := G' } Z (k d) → P d G' H') : KE K mg E T s H P x := by
  cases x with
  | ok d => exact fun G' H' a b _ c => hk d G' H' rfl a b c (KS.mono (T' := { T with G := G' }) h rfl rfl a)
  | err c => exact fun H' e0 _ => h s H' e0
  | stuck => exact h
end
def fNx (r : Rho) : R Fl := .ok (.nx r)
def fSeq (f g : Rho → R Fl) (r : Rho) : R Fl := (f r).bnd fun x => match x with
  | .nx r' => g r'
  | .bk r' => .ok (.bk r')
  | .ct r' => .ok (.ct r')
  | .rt d => .ok (.rt d)
  | .rm d os => .ok (.rm d os)
section
variable {X : Cx} {E : WX} {st : Stmt} {rest b1 b2 : List Stmt} {f g f1 f2 : Rho → R Fl} {e c : Expr} {fe : Rho → R D} {fc : Rho → R Bool} {pos : Pos}
theorem sss_nil : SSs X E [] fNx := pss_imp pss_nil fun Z s H ⟨T, R, h⟩ => h s T.G H (Same.refl _) R
theorem sss_cons (h1 : SS X E st f) (h2 : SSs X E rest g) : SSs X E (st :: rest) (fSeq f g) :=
  pss_imp (pss_cons h1 h2) fun Z s H ⟨T, R, h⟩ => ⟨T, R, by
    unfold fSeq at h
    cases e : f T.r with
    | ok x =>
      rw [e] at h
      cases x with
      | nx r' => exact fun s' G' H' a b => ⟨{ T with r := r', G := G' }, b, KS.mono (T' := { T with r := r', G := G' }) (show KS X.K X.mg E T Z (g r') from h) rfl rfl a⟩
      | bk r' => exact h
      | ct r' => exact h
      | rt d => exact h
      | rm d os => exact h
    | err c => rw [e] at h; exact h
    | stuck => rw [e] at h; exact h⟩
theorem sss_one (h1 : SS X E st f) : SSs X E [st] f := pss_one h1
def fIfS (fc : Rho → R Bool) (f1 f2 : Rho → R Fl) (r : Rho) : R Fl := (fc r).bnd fun b => if b then f1 r else f2 r
theorem ss_if (hc : ET X E c fc) (h1 : SSs X E b1 f1) (h2 : SSs X E b2 f2) : SS X E (.If c b1 b2 pos) (fIfS fc f1 f2) :=
  ps_imp (ps_if hc h1 h2) fun Z s H ⟨T, R, h⟩ => ⟨T, R, KS.bnd h fun b G1 H1 _ eg eh R1 h1 => by
    cases b with
    | true => exact ⟨{ T with G := G1 }, R1, h1⟩
    | false => exact ⟨{ T with G := G1 }, R1, h1⟩⟩
def outD (r : Rho) : D → R D
  | .own i => match r[i]? with
    | some (.ol ds) => .ok (.lst ds)
    | _ => .stuck
  | .obj _ => .stuck
  | .tpo _ => .stuck
  | d => .ok d
def fRet (fe : Rho → R D) (r : Rho) : R Fl := (fe r).bnd fun d => (outD r d).bnd fun d => .ok (.rt d)
theorem KS.out {K : PySem.W.Frag} {mg : Str → Option Value} {T : Stt} {s : St} {H : Hp} {Z : Ends} {d : D} {v : V} (h : KS K mg E T Z ((outD T.r d).bnd fun d => .ok (.rt d))) (R : Rl K T s H) (rv : RpE K T.G s v d) : Z.rt v H := by
  have im : ∀ d', Rp K T.G v d' → KS K mg E T Z (.ok (.rt d')) → Z.rt v H := fun d' r' h' => h' v T.G H R.gg R.hh R.gh R.gf R.nw r'
  cases d with
  | own i =>
    simp only [outD] at h
    cases e : T.r[i]? with
    | none => rw [e] at h; exact h.elim
    | some x =>
      rw [e] at h
      have q := R.sl i x e
      rw [show s[i]? = some (some v) from rv] at q
      have froze : ∀ {o : HO} {a : Addr} {d' : D} [UnM o], V.ref a = v → H a = some o → T.G a = none → T.H0 a = none → Rp K (upd T.G a o) v d' → KS K mg E T Z (.ok (.rt d')) → Z.rt v H := fun {o a d'} um' ev h1 h2 h3 h4 h5 => by
        refine h5 v (upd T.G a o) H (R.gg.trans (ex_new h2)) R.hh (fun b u q => ?_) (fun b q => ?_) (fun b u q n => ?_) h4
        · rw [um_upd um'.h] at q
          by_cases z : b = a
          · subst z
            rw [upd_same] at q
            rw [h1, ← q]
          · rw [upd_ne z] at q
            exact R.gh _ _ q
        · by_cases z : b = a
          · rw [z, h1] at q; cases q
          · rw [upd_ne z]; exact R.gf b q
        · by_cases z : b = a
          · rw [z]; exact h3
          · rw [upd_ne z] at q
            exact R.nw b u q n
      cases x with
      | ol ds =>
        obtain ⟨a, xs, e1, e2, e3, e4, e5⟩ := q
        have ev : v = .ref a := Option.some.inj e1
        subst ev
        exact froze rfl e2 e3 e4 (Rp.lst upd_same (e5.mono (ex_new e3))) h
      | _ => exact h.elim
  | obj k => exact h.elim
  | tpo k => exact h.elim
  | _ => exact im _ rv h
theorem ss_ret (he : EV X E e fe) : SS X E (.Return (some e) pos) (fRet fe) :=
  ps_imp (ps_ret he) fun Z s H ⟨T, R, h⟩ => ⟨T, R, KS.bnd h fun d G1 H1 _ eg eh R1 h1 v rv => KS.out (T := { T with G := G1 }) h1 R1 rv⟩
def fExpr (fe : Rho → R D) (r : Rho) : R Fl := (fe r).bnd fun _ => .ok (.nx r)
theorem ss_expr (he : EV X E e fe) (hs : swapsWith e none pos.line X.env = pure false := by rfl) : SS X E (.Expr e pos) (fExpr fe) :=
  ps_imp (ps_expr he hs) fun Z s H ⟨T, R, h⟩ => ⟨T, R, KS.bnd h fun d G1 H1 _ eg eh R1 h1 v rv => h1 s G1 H1 (Same.refl _) R1⟩
def fAsg (t : Tg) (fe : Rho → R D) (r : Rho) : R Fl := (fe r).bnd fun d => (imD d).bnd fun d => (setT t d r).bnd fun r' => .ok (.nx r')
theorem asg_red {K : PySem.W.Frag} {mg : Str → Option Value} {t : Tg} {Z : Ends} {s : St} {H : Hp} (h : tS K mg E (fAsg t fe) Z s H) : tAsg (tE K mg E fe) (tG K t) Z s H := by
  obtain ⟨T, R, h⟩ := h
  refine ⟨T, R, KS.bnd h fun d G1 H1 _ eg eh R1 h1 v rv => ?_⟩
  unfold imD at h1
  cases e : noOwn d with
  | false => rw [e] at h1; exact h1.elim
  | true =>
    rw [e] at h1
    refine ⟨{ T with G := G1 }, d, R1, .pure (RpE.im e rv), ?_⟩
    have h2 : KS K mg E { T with G := G1 } Z ((setT t d T.r).bnd fun r' => .ok (.nx r')) := h1
    show (match setT t d T.r with
      | .ok r' => _
      | _ => False)
    cases e2 : setT t d T.r with
    | ok r' =>
      rw [e2] at h2
      exact fun s' R' a => h2 s' G1 H1 (Same.refl _) R'
    | err c =>
      exfalso
      exact absurd e2 (setT_noerr t d T.r c)
    | stuck => rw [e2] at h2; exact h2
where
  setT_noerr : ∀ (t : Tg) (d : D) (r : Rho) (c : Str), setT t d r ≠ .err c
    | .nm i, d, r, c => by
      simp only [setT]
      split
      · exact fun z => by cases z
      · exact fun z => by cases z
    | .tp ts, .tup ds, r, c => by
      simp only [setT]
      exact setTs_noerr ts ds r c
    | .tp ts, .non, r, c => fun h => by cases h
    | .tp ts, .bl _, r, c => fun h => by cases h
    | .tp ts, .int _, r, c => fun h => by cases h
    | .tp ts, .str _, r, c => fun h => by cases h
    | .tp ts, .lst ds, r, c => by
      simp only [setT]
      exact setTs_noerr ts ds r c
    | .tp ts, .dic _, r, c => fun h => by cases h
    | .tp ts, .own _, r, c => fun h => by cases h
    | .tp ts, .scr _, r, c => fun h => by cases h
    | .tp ts, .tpn _, r, c => fun h => by cases h
    | .tp ts, .exc _, r, c => fun h => by cases h
    | .tp ts, .fn _, r, c => fun h => by cases h
    | .tp ts, .obj _, r, c => fun h => by cases h
    | .tp ts, .tpo ds, r, c => by
      simp only [setT]
      exact setTs_noerr ts ds r c
  setTs_noerr : ∀ (ts : List Tg) (ds : List D) (r : Rho) (c : Str), setTs ts ds r ≠ .err c
    | [], [], r, c => fun h => by cases h
    | [], _ :: _, _, _ => fun h => by simp [setTs] at h
    | _ :: _, [], _, _ => fun h => by simp [setTs] at h
    | t :: ts, d :: ds, r, c => fun h => by
      simp only [setTs] at h
      cases e : setT t d r with
      | ok r1 =>
        rw [e] at h
        exact setTs_noerr ts ds r1 c h
      | err c' => exact setT_noerr t d r c' e
      | stuck => rw [e] at h; cases h
theorem tG_nm {K : PySem.W.Frag} {i : Nat} {v : V} {s : St} {H : Hp} {Q : St → Hp → Prop} (hs : i < s.length) (h : tG K (.nm i) v s H Q) : gName i v s H Q := by
  obtain ⟨T, d, R, rv, h⟩ := h
  simp only [setT] at h
  cases e : decide (i < T.r.length) with
  | false => rw [e] at h; exact h.elim
  | true =>
    rw [e] at h
    exact h _ (R.setIm rv hs) ⟨List.length_set, fun j hj => List.getElem?_set_ne (fun z => hj (by simp [Tg.slots, z]))⟩
theorem tE_imp {K : PySem.W.Frag} {mg : Str → Option Value} {s : St} {H : Hp} {Q Q' : VK} (h : tE K mg E fe s H Q) (i : ∀ v H, Q v H → Q' v H) : tE K mg E fe s H Q' := by
  obtain ⟨T, R, h⟩ := h
  exact ⟨T, R, KE.imp h fun d G' H' _ _ _ q v rv => i _ _ (q v rv)⟩
theorem ss_set (i : Nat) {x : Str} {pos' : Pos} (hN : X.N.Nodup) (he : EV X E e fe) (hi : X.N[i]? = some x := by rfl) (hx : Loc X.env.scope x := by first | exact Or.inl rfl | exact Or.inr rfl) (hs : swapsWith e (some (.Name x pos')) pos.line X.env = pure false := by rfl) (hf : X.fn x = true ∨ X.env.scope.names.lookup x = some .local := by first | exact .inl rfl | exact .inr rfl | assumption) :
    SS X E (.Assign [.Name x pos'] e pos) (fAsg (.nm i) fe) :=
  ps_impL (ps_set hN hi hx he hs hf) fun Z s H sl h => tE_imp (asg_red h) fun v H q => tG_nm (n_lt hi sl) q
theorem ss_asg {t : Tg} {tg : Expr} (he : EV X E e fe) (hg : EG X tg t) (hs : swapsWithSole [tg] e pos.line X.env = pure false := by rfl) (hw : swappedStores [tg] e X.env = pure none := by rfl)
    (h1 : (assignEach [tg] X.env).map (·.2) = [assign tg X.env] := by rfl) : SS X E (.Assign [tg] e pos) (fAsg t fe) :=
  ps_imp (ps_asg he hg hs hw h1) fun Z s H h => asg_red h
def fAsgN (i : Nat) (fs : Rho → R (List D)) (r : Rho) : R Fl := (fs r).bnd fun ds => if decide (i < r.length) then .ok (.nx (r.set i (.ol ds))) else .stuck
theorem asgN_red {K : PySem.W.Frag} {mg : Str → Option Value} {i : Nat} {fs : Rho → R (List D)} {Z : Ends} {s : St} {H : Hp} (hs : i < s.length) (h : tS K mg E (fAsgN i fs) Z s H) : tAsg (tN K mg E fs) (gName i) Z s H := by
  obtain ⟨T, R, h⟩ := h
  refine ⟨T, R, KS.bnd h fun ds G1 H1 _ eg eh R1 h1 p xs hp h2 hg hr => ?_⟩
  cases e : decide (i < T.r.length) with
  | false => rw [e] at h1; exact h1.elim
  | true =>
    rw [e] at h1
    have hn : ∀ j, j ≠ i → ¬ OwnAt T.r s j p := fun j _ o => by
      obtain ⟨⟨u, e⟩, _⟩ := own_in R o
      rw [e] at hp
      cases hp
    exact h1 _ G1 H1 (Same.refl _) (R1.setOl h2 hg (R.hh.free hp) hn hr hs)
theorem ss_setN (i : Nat) {x : Str} {pos' : Pos} {fs : Rho → R (List D)} (hN : X.N.Nodup) (he : EN X E e fs) (hi : X.N[i]? = some x := by rfl) (hx : Loc X.env.scope x := by first | exact Or.inl rfl | exact Or.inr rfl) (hs : swapsWith e (some (.Name x pos')) pos.line X.env = pure false := by rfl) (hf : X.fn x = true ∨ X.env.scope.names.lookup x = some .local := by first | exact .inl rfl | exact .inr rfl | assumption) :
    SS X E (.Assign [.Name x pos'] e pos) (fAsgN i fs) :=
  ps_impL (ps_set hN hi hx he hs hf) fun Z s H sl h => asgN_red (n_lt hi sl) h
section
variable {elt tg iter : Expr} {ifs : List Expr} {scope : Scope} {fi : Rho → R (List D)} {ft : Rho → R Bool} {fe : Rho → R D} {t : Tg} {y : Str} {py spos : Pos}
theorem ss_setLcN (i : Nat) (own : List (Str × Nat)) (hc : X.calm = true) (hN : X.N.Nodup) (hi : EI X E true tg iter fi) (ok : BlkOk X.N X.env.scope scope own)
    (hg : ∀ (s : Shared) (H : Hp) (C : Addr) (cl : List (Str × Addr)) (fp : List Addr), EG (X.blk s H scope (compEnvC scope cl C X.env) fp) tg t) (ht : ∀ (s : Shared) (H : Hp) (C : Addr) (cl : List (Str × Addr)) (fp : List Addr), ETs (X.blk s H scope (compEnvC scope cl C X.env) fp) EZ ifs ft)
    (he : ∀ (s : Shared) (H : Hp) (C : Addr) (cl : List (Str × Addr)) (fp : List Addr), EV (X.blk s H scope (compEnvC scope cl C X.env) fp) EZ elt fe) (hy : X.N[i]? = some y := by rfl) (hyl : X.env.scope.names.lookup y = some .local := by rfl)
    (hsw : swapsWith (.ListComp elt [⟨tg, iter, ifs, 0⟩] scope pos) (some (.Name y py)) spos.line X.env = pure true := by exact sw_true rfl rfl rfl (by decide +kernel)) (hsl : (t.slots.all fun i => (own.map (·.2)).contains i) = true := by rfl) (hs : ∀ x, foldedSetIterable iter X.env x = pure x := by intro _; rfl) :
    SS X E (.Assign [.Name y py] (.ListComp elt [⟨tg, iter, ifs, 0⟩] scope pos) spos) (fAsgN i (fLc (own.map (·.2)) t fi ft fe)) :=
  ps_impL (ps_setLc (g := tG X.K t) (tt := tT X.K X.mg EZ ft) (te := tE X.K X.mg EZ fe) hc hN hy hyl hsw hi ok hg ht he hs) fun Z s H sl h => lc_red (fun i hi => by
    have := List.all_eq_true.mp hsl i hi
    simpa using this) (blk_lt ok sl) (asgN_red (n_lt hy sl) h)
theorem ss_setLc (i : Nat) (own : List (Str × Nat)) (hc : X.calm = true) (hN : X.N.Nodup) (hi : EI X E true tg iter fi) (ok : BlkOk X.N X.env.scope scope own)
    (hg : ∀ (s : Shared) (H : Hp) (C : Addr) (cl : List (Str × Addr)) (fp : List Addr), EG (X.blk s H scope (compEnvC scope cl C X.env) fp) tg t) (ht : ∀ (s : Shared) (H : Hp) (C : Addr) (cl : List (Str × Addr)) (fp : List Addr), ETs (X.blk s H scope (compEnvC scope cl C X.env) fp) EZ ifs ft)
    (he : ∀ (s : Shared) (H : Hp) (C : Addr) (cl : List (Str × Addr)) (fp : List Addr), EV (X.blk s H scope (compEnvC scope cl C X.env) fp) EZ elt fe) (hy : X.N[i]? = some y := by rfl) (hyl : X.env.scope.names.lookup y = some .local := by rfl)
    (hsw : swapsWith (.ListComp elt [⟨tg, iter, ifs, 0⟩] scope pos) (some (.Name y py)) spos.line X.env = pure true := by exact sw_true rfl rfl rfl (by decide +kernel)) (hsl : (t.slots.all fun i => (own.map (·.2)).contains i) = true := by rfl) (hs : ∀ x, foldedSetIterable iter X.env x = pure x := by intro _; rfl) :
    SS X E (.Assign [.Name y py] (.ListComp elt [⟨tg, iter, ifs, 0⟩] scope pos) spos) (fAsg (.nm i) (fL (fLc (own.map (·.2)) t fi ft fe))) :=
  ps_impL (ps_setLc (g := tG X.K t) (tt := tT X.K X.mg EZ ft) (te := tE X.K X.mg EZ fe) hc hN hy hyl hsw hi ok hg ht he hs) fun Z s H sl h => lc_red (fun i hi => by
    have := List.all_eq_true.mp hsl i hi
    simpa using this) (blk_lt ok sl) (tN_tE (tE_imp (asg_red h) fun v H q => tG_nm (n_lt hy sl) q))
end
def fPar (i j : Nat) (fs : Rho → R (List D)) (r : Rho) : R Fl := (fs r).bnd fun ds => match ds with
  | [x, y] => if decide (i < r.length ∧ j < r.length) then .ok (.nx ((r.set i (.im x)).set j (.im y))) else .stuck
  | _ => .stuck
theorem ss_par (i j : Nat) {x y : Str} {a b : Expr} {fs : Rho → R (List D)} {px py pt : Pos} {kt k2 pt2} (hc : X.calm = true) (hN : X.N.Nodup) (ha : EA X E [a, b] fs) (hi : X.N[i]? = some x := by rfl) (hj : X.N[j]? = some y := by rfl) (hij : i ≠ j := by decide)
    (hx : X.env.scope.names.lookup x = some .local := by rfl) (hy : X.env.scope.names.lookup y = some .local := by rfl)
    (hw : swappedStores [.Tuple [.Name x px, .Name y py] kt pt] (.Tuple [a, b] k2 pt2) X.env = pure (some [x, y]) := by rfl)
    (hs : swapsWithSole [.Tuple [.Name x px, .Name y py] kt pt] (.Tuple [a, b] k2 pt2) pos.line X.env = pure false := by rfl) :
    SS X E (.Assign [.Tuple [.Name x px, .Name y py] kt pt] (.Tuple [a, b] k2 pt2) pos) (fPar i j fs) :=
  ps_impL (ps_par hc hN hi hj hij hx hy ha hw hs) fun Z s H sl ⟨T, R, h⟩ => ⟨T, R, KS.bnd h fun ds G1 H1 _ eg eh R1 h1 vs rvs => by
    cases rvs with
    | nil => exact h1.elim
    | @cons v vs d ds r1 r2 =>
      cases r2 with
      | nil => exact h1.elim
      | @cons v2 vs2 d2 ds2 r3 r4 =>
        cases r4 with
        | cons _ _ => exact h1.elim
        | nil =>
          simp only at h1
          cases e : decide (i < T.r.length ∧ j < T.r.length) with
          | false => rw [e] at h1; exact h1.elim
          | true =>
            rw [e] at h1
            have e2 := of_decide_eq_true e
            exact ⟨v, v2, rfl, h1 _ G1 H1 (Same.refl _) ((R1.setIm (.pure r1) (n_lt hi sl)).setIm (.pure r3) (by rw [List.length_set]; exact n_lt hj sl))⟩⟩
theorem Rel.setOwn {K : PySem.W.Frag} {G0 H0 G H : Hp} {r : Rho} {s : St} {i : Nat} {a : Addr} {xs : List V} {ds : List D} (R : Rel K G0 H0 r s G H) (o : OwnAt r s i a) (hr : RpA K G xs ds) : Rel K G0 H0 (r.set i (.ol ds)) s G (upd H a (.lst xs)) := by
  obtain ⟨⟨u, hu⟩, hg, h0⟩ := own_in R o
  have hsl : i < s.length := (List.getElem?_eq_some_iff.mp o.2).1
  have hi : i < r.length := Nat.lt_of_lt_of_le hsl R.ln.lo
  have ow : ∀ j b, OwnAt (r.set i (.ol ds)) s j b → OwnAt r s j b := fun j b h => by
    by_cases e : j = i
    · subst e
      have e1 := h.2
      have e2 := o.2
      rw [e1] at e2
      cases e2
      exact o
    · have h1 := h.1
      rw [List.getElem?_set_ne (Ne.symm e)] at h1
      exact ⟨h1, h.2⟩
  refine ⟨R.gg, ex_into R.hh h0, ex_into R.gh (um_none hg), fun b q => R.gf_upd q, R.nw, fun j x hx => ?_, fun j k b h1 h2 => R.ds j k b (ow j b h1) (ow k b h2), R.ln.setr hsl _⟩
  by_cases e : j = i
  · subst e
    rw [List.getElem?_set_self hi] at hx
    cases hx
    rw [o.2]
    exact ⟨a, xs, rfl, upd_same, hg, h0, hr⟩
  · rw [List.getElem?_set_ne (Ne.symm e)] at hx
    have q := R.sl j x hx
    have ne : ∀ b, isOwn (some x) → (s[j]?.join) = some (V.ref b) → b ≠ a := fun b ix eb z => by
      subst z
      refine e (R.ds j i b ⟨by rw [hx]; exact ix, ?_⟩ o)
      cases e6 : s[j]? with
      | none => rw [e6] at eb; cases eb
      | some w => rw [e6] at eb; exact congrArg some eb
    cases x with
    | un => exact q
    | im d => exact q
    | ol es =>
      obtain ⟨b, ys, e1, e2, e3, e4, e5⟩ := q
      exact ⟨b, ys, e1, by rw [upd_ne (ne b trivial e1)]; exact e2, e3, e4, e5⟩
    | od es =>
      obtain ⟨b, ys, e1, e2, e3, e4, e5⟩ := q
      exact ⟨b, ys, e1, by rw [upd_ne (ne b trivial e1)]; exact e2, e3, e4, e5⟩
    | st w os => exact StOk.off hg q
theorem own_at {K : PySem.W.Frag} {T : Stt} {s : St} {H : Hp} {i : Nat} {ds : List D} (R : Rl K T s H) (h : T.r[i]? = some (.ol ds)) : ∃ a xs, OwnAt T.r s i a ∧ s[i]? = some (some (.ref a)) ∧ H a = some (.lst xs) ∧ RpA K T.G xs ds := by
  obtain ⟨a, xs, e1, e2, e3, e4, e5⟩ := R.sl i _ h
  have e3 : s[i]? = some (some (.ref a)) := by
    cases e4 : s[i]? with
    | none => rw [e4] at e1; cases e1
    | some o => rw [e4] at e1; exact congrArg some e1
  exact ⟨a, xs, ⟨by rw [h]; trivial, e3⟩, e3, e2, e5⟩
def fApp (i : Nat) (fe : Rho → R D) (r : Rho) : R Fl := match r[i]? with
  | some (.ol ds) => (fe r).bnd fun d => (imD d).bnd fun d => if decide (ds.length < sizeLine) then .ok (.nx (r.set i (.ol (ds ++ [d])))) else .stuck
  | _ => .stuck
theorem ss_app (i : Nat) {x : Str} {p apos cpos : Pos} (he : EV X E e fe) (hN : X.N[i]? = some x := by rfl) (hv : Vis X.env.scope x := by first | exact Or.inl rfl | exact Or.inr (Or.inl rfl) | exact Or.inr (Or.inr rfl)) (hd : (x == ("__debug__" : Str)) = false := by decide) (hcd : (x == ("__classdict__" : Str)) = false := by decide)
    (hbase : attributeBase (.Name x p) "append" X.env (eval (.Name x p) X.env) = eval (.Name x p) X.env := by rfl)
    (hfew : ((backTo cpos (starEach [e] X.env)).all (fun x => !x.1) && (backToKw cpos (keywordEach [] X.env)).all (fun x => x.1.isSome)
      && decide ([e].length + ([] : List Keyword).length + (if ([] : List Keyword).isEmpty then 0 else 1) < 30)) = true := by rfl)
    (hline : (apos.endLine == cpos.line) = true := by rfl) (hs : starEach [e] X.env = (false, eval e X.env) :: starEach [] X.env := by rfl) (hplain : (backTo cpos (starEach [] X.env)).any (·.1) = false := by rfl) (hsw : swapsWith (.Call (.Attribute (.Name x p) "append" apos) [e] [] cpos) none pos.line X.env = pure false := by rfl) :
    SS X E (.Expr (.Call (.Attribute (.Name x p) "append" apos) [e] [] cpos) pos) (fApp i fe) :=
  ps_imp (ps_expr (pe_bm PySem.F.plainAttrs_list PySem.F.slot_list_append PySem.F.type_list_append mt_append (pe_var (i := i) hN hv hd hcd) (pa_cons he pa_nil hs) hbase hfew hline hs hplain) hsw) fun Z s H ⟨T, R, h⟩ => by
    unfold fApp at h
    cases e1 : T.r[i]? with
    | none => rw [e1] at h; exact h.elim
    | some x =>
      cases x with
      | ol ds =>
        rw [e1] at h
        obtain ⟨a, xs, o, e3, e2, e5⟩ := own_at R e1
        refine ⟨_, e3, .inl ⟨rfl, xs, SqL.of e2⟩, T, R, KS.bnd h fun d G1 H1 _ eg eh R1 h1 v rv => ?_⟩
        unfold imD at h1
        cases e6 : noOwn d with
        | false => rw [e6] at h1; exact h1.elim
        | true =>
          rw [e6] at h1
          have h2 : KS X.K X.mg E { T with G := G1 } Z (if decide (ds.length < sizeLine) then .ok (.nx (T.r.set i (.ol (ds ++ [d])))) else .stuck) := h1
          cases e7 : decide (ds.length < sizeLine) with
          | false => rw [e7] at h2; exact h2.elim
          | true =>
            rw [e7] at h2
            refine ⟨a, xs, v, rfl, rfl, eh _ _ e2, by rw [e5.length]; exact of_decide_eq_true e7, ?_⟩
            exact h2 s G1 _ (Same.refl _) (R1.setOwn o ((e5.mono eg).snoc (RpE.im e6 rv)))
      | _ => rw [e1] at h; exact h.elim
def fExt (i : Nat) (fe : Rho → R D) (r : Rho) : R Fl := match r[i]? with
  | some (.ol ds) => (fe r).bnd fun d => match d with
    | .lst es => if decide (ds.length + es.length ≤ sizeLine) then .ok (.nx (r.set i (.ol (ds ++ es)))) else .stuck
    | _ => .stuck
  | _ => .stuck
theorem ss_ext (i : Nat) {x : Str} {p apos cpos : Pos} (he : EV X E e fe) (hN : X.N[i]? = some x := by rfl) (hv : Vis X.env.scope x := by first | exact Or.inl rfl | exact Or.inr (Or.inl rfl) | exact Or.inr (Or.inr rfl)) (hd : (x == ("__debug__" : Str)) = false := by decide) (hcd : (x == ("__classdict__" : Str)) = false := by decide)
    (hbase : attributeBase (.Name x p) "extend" X.env (eval (.Name x p) X.env) = eval (.Name x p) X.env := by rfl)
    (hfew : ((backTo cpos (starEach [e] X.env)).all (fun x => !x.1) && (backToKw cpos (keywordEach [] X.env)).all (fun x => x.1.isSome)
      && decide ([e].length + ([] : List Keyword).length + (if ([] : List Keyword).isEmpty then 0 else 1) < 30)) = true := by rfl)
    (hline : (apos.endLine == cpos.line) = true := by rfl) (hs : starEach [e] X.env = (false, eval e X.env) :: starEach [] X.env := by rfl) (hplain : (backTo cpos (starEach [] X.env)).any (·.1) = false := by rfl) (hsw : swapsWith (.Call (.Attribute (.Name x p) "extend" apos) [e] [] cpos) none pos.line X.env = pure false := by rfl) :
    SS X E (.Expr (.Call (.Attribute (.Name x p) "extend" apos) [e] [] cpos) pos) (fExt i fe) :=
  ps_imp (ps_expr (pe_bm PySem.F.plainAttrs_list PySem.F.slot_list_extend PySem.F.type_list_extend mt_extend (pe_var (i := i) hN hv hd hcd) (pa_cons he pa_nil hs) hbase hfew hline hs hplain) hsw) fun Z s H ⟨T, R, h⟩ => by
    unfold fExt at h
    cases e1 : T.r[i]? with
    | none => rw [e1] at h; exact h.elim
    | some x =>
      cases x with
      | ol ds =>
        rw [e1] at h
        obtain ⟨a, xs, o, e3, e2, e5⟩ := own_at R e1
        refine ⟨_, e3, .inl ⟨rfl, xs, SqL.of e2⟩, T, R, KS.bnd h fun d G1 H1 _ eg eh R1 h1 v rv => ?_⟩
        cases d with
        | lst es =>
          simp only at h1
          cases (show Rp X.K G1 v (.lst es) from rv) with
          | @lst b ys _ q1 q2 =>
            cases e7 : decide (ds.length + es.length ≤ sizeLine) with
            | false => rw [e7] at h1; exact h1.elim
            | true =>
              rw [e7] at h1
              refine ⟨a, b, xs, ys, rfl, rfl, eh _ _ e2, R1.at q1 rfl, by rw [e5.length, q2.length]; exact of_decide_eq_true e7, ?_⟩
              exact h1 s G1 _ (Same.refl _) (R1.setOwn o ((e5.mono eg).append q2))
        | _ => exact h1.elim
      | _ => rw [e1] at h; exact h.elim
def fSetIx (i : Nat) (fk fe : Rho → R D) (r : Rho) : R Fl := match r[i]? with
  | some (.ol ds) => (fe r).bnd fun d => (imD d).bnd fun d => (fk r).bnd fun k => match k with
    | .int k => (match ixN ds.length k with
      | some j => .ok (.nx (r.set i (.ol (ds.set j d))))
      | none => .stuck)
    | _ => .stuck
  | _ => .stuck
end
end PL
end
section
namespace PL
open PySem PySem.Spec PyProof.Rows L2
section
variable {X : Cx} {E : WX} {st : Stmt} {rest b1 b2 body : List Stmt} {f g f1 f2 fb : Rho → R Fl} {e c k tg iter : Expr} {fe fk : Rho → R D} {fc : Rho → R Bool} {pos : Pos} {t : Tg} {fi : Rho → R (List D)}
def forGo (t : Tg) (fb : Rho → R Fl) : List D → Rho → R Fl
  | [], r => .ok (.nx r)
  | d :: ds, r => (noE (setT t d r)).bnd fun r2 => (fb r2).bnd fun x => match x with
    | .nx r' => forGo t fb ds r'
    | .ct r' => forGo t fb ds r'
    | .bk r' => .ok (.nx r')
    | .rt d => .ok (.rt d)
    | .rm d os => .ok (.rm d os)
def fFor (t : Tg) (fi : Rho → R (List D)) (fb : Rho → R Fl) (r : Rho) : R Fl := (fi r).bnd fun ds => forGo t fb ds r
theorem ss_for (hp : PassesOwn (model X.prog X.w) X.A X.env X.xe) (hc : X.calm = true) (hi : EI X E false tg iter fi) (hg : EG X tg t) (hb : SSs X E body fb) (hs : ∀ x, foldedSetIterable iter X.env x = pure x := by intro _; rfl) : SS X E (.For tg iter body [] pos) (fFor t fi fb) :=
  ps_imp (ps_for hp hc hi hg hb hs) fun Z s H ⟨T, R, h⟩ => ⟨T, R, KS.bnd h fun ds G1 H1 _ eg eh R1 h1 J B eB hB wk => by
    have hB : B = um G1 := hB rfl
    rw [hB] at wk
    clear hB eB
    refine for_it wk (fun i s' H' => ∃ r' G', Rel X.K T.G0 T.H0 r' s' G' H' ∧ Ex G1 G' ∧ KS X.K X.mg E ⟨T.G0, T.H0, r', G'⟩ Z (forGo t fb (ds.drop i) r')) ?_ ?_ ?_ ?_
    · exact ⟨T.r, G1, R1, Same.refl _, by rw [List.drop_zero]; exact h1⟩
    · rintro i s' H' _ ⟨r', G', R', eg', _⟩
      exact (um_ex eg').trans R'.gh
    · rintro i x s2 H2 H3 hi ⟨r', G', R2, eg2, k2⟩ ⟨d, hd, yd⟩
      have dr : ds.drop i = d :: ds.drop (i + 1) := by
        have hlt := (List.getElem?_eq_some_iff.mp hd).1
        rw [List.drop_eq_getElem_cons hlt]
        congr 1
        exact (List.getElem?_eq_some_iff.mp hd).2
      rw [dr] at k2
      simp only [forGo] at k2
      obtain ⟨G3, R3, rx, eg3⟩ : ∃ G3, Rel X.K T.G0 T.H0 r' s2 G3 H3 ∧ RpO X.K G3 x d ∧ Ex G' G3 := by
        rcases yd with ⟨e1, e2⟩ | ⟨p, ys, es, e1, e2, e3, e4, e5⟩
        · subst e1
          exact ⟨G', R2, e2.mono eg2, Same.refl _⟩
        · subst e1 e3 e4
          have xg : Ex G' (upd G' p (.tup ys)) := ex_new (R2.gf _ e2)
          exact ⟨upd G' p (.tup ys), R2.new e2, .pure (.tup (SqT.of upd_same) ((e5.mono eg2).mono xg)), xg⟩
      refine ⟨⟨T.G0, T.H0, r', G3⟩, d, R3, rx, ?_⟩
      show (match setT t d r' with
        | .ok r' => _
        | _ => False)
      cases e1 : setT t d r' with
      | err c => rw [e1] at k2; exact k2.elim
      | stuck => rw [e1] at k2; exact k2.elim
      | ok r3 =>
        rw [e1] at k2
        intro s4 R4 _
        refine ⟨⟨T.G0, T.H0, r3, G3⟩, R4, ?_⟩
        have k3 : KS X.K X.mg E ⟨T.G0, T.H0, r', G'⟩ Z ((fb r3).bnd fun x => match x with
          | .nx r' => forGo t fb (ds.drop (i + 1)) r'
          | .ct r' => forGo t fb (ds.drop (i + 1)) r'
          | .bk r' => .ok (.nx r')
          | .rt d => .ok (.rt d)
          | .rm d os => .ok (.rm d os)) := k2
        show KS X.K X.mg E ⟨T.G0, T.H0, r3, G3⟩ _ (fb r3)
        cases e2 : fb r3 with
        | err c => rw [e2] at k3; exact k3
        | stuck => rw [e2] at k3; exact k3
        | ok x =>
          rw [e2] at k3
          cases x with
          | nx r5 => exact fun s5 G5 H5 a b => ⟨r5, G5, b, (eg2.trans eg3).trans a, KS.mono (T := ⟨T.G0, T.H0, r', G'⟩) k3 rfl rfl (eg3.trans a)⟩
          | ct r5 => exact fun s5 G5 H5 a b => ⟨r5, G5, b, (eg2.trans eg3).trans a, KS.mono (T := ⟨T.G0, T.H0, r', G'⟩) k3 rfl rfl (eg3.trans a)⟩
          | bk r5 => exact fun s5 G5 H5 a b => (show KS X.K X.mg E ⟨T.G0, T.H0, r', G'⟩ Z (.ok (.nx r5)) from k3) s5 G5 H5 (eg3.trans a) b
          | rt d => exact k3
          | rm d os => exact k3
    · rintro s' H' ⟨r', G', R', eg', k'⟩
      have dn : ds.drop ds.length = [] := List.drop_length
      rw [dn] at k'
      exact k' s' G' H' (Same.refl _) R'⟩
def whGo (fc : Rho → R Bool) (fb : Rho → R Fl) : Nat → Rho → R Fl
  | 0, _ => .stuck
  | n + 1, r => (fc r).bnd fun b => if b then (fb r).bnd fun x => match x with
    | .nx r' => whGo fc fb n r'
    | .ct r' => whGo fc fb n r'
    | .bk r' => .ok (.nx r')
    | .rt d => .ok (.rt d)
    | .rm d os => .ok (.rm d os) else .ok (.nx r)
def fWh (m : Rho → Nat) (fc : Rho → R Bool) (fb : Rho → R Fl) (r : Rho) : R Fl := whGo fc fb (m r) r
theorem ss_while (m : Rho → Nat) (hp : PassesOwn (model X.prog X.w) X.A X.env X.xe) (hc : ET X E c fc) (hb : SSs X E body fb) : SS X E (.While c body [] pos) (fWh m fc fb) :=
  ps_imp (ps_while hp hc hb) fun Z s H ⟨T, R, h⟩ => by
    refine ⟨fun n s' H' => ∃ r' G', Rel X.K T.G0 T.H0 r' s' G' H' ∧ KS X.K X.mg E ⟨T.G0, T.H0, r', G'⟩ Z (whGo fc fb n r'), ⟨m T.r, T.r, T.G, R, h⟩, ?_⟩
    rintro n s1 H1 ⟨r1, G1, R1, k1⟩
    cases n with
    | zero => exact k1.elim
    | succ n =>
      simp only [whGo] at k1
      refine ⟨⟨T.G0, T.H0, r1, G1⟩, R1, KS.bnd (T := ⟨T.G0, T.H0, r1, G1⟩) k1 fun b G2 H2 _ eg eh R2 k2 => ?_⟩
      cases b with
      | false => exact k2 s1 G2 H2 (Same.refl _) R2
      | true =>
        have k3 : KS X.K X.mg E ⟨T.G0, T.H0, r1, G2⟩ Z ((fb r1).bnd fun x => match x with
          | .nx r' => whGo fc fb n r'
          | .ct r' => whGo fc fb n r'
          | .bk r' => .ok (.nx r')
          | .rt d => .ok (.rt d)
          | .rm d os => .ok (.rm d os)) := k2
        refine ⟨fun s' H' => ∃ r' G', Rel X.K T.G0 T.H0 r' s' G' H' ∧ KS X.K X.mg E ⟨T.G0, T.H0, r', G'⟩ Z (whGo fc fb n r'), fun s' H' q => ⟨n, Nat.lt_succ_self n, q⟩, ⟨T.G0, T.H0, r1, G2⟩, R2, ?_⟩
        show KS X.K X.mg E ⟨T.G0, T.H0, r1, G2⟩ _ (fb r1)
        cases e2 : fb r1 with
        | err c => rw [e2] at k3; exact k3
        | stuck => rw [e2] at k3; exact k3
        | ok x =>
          rw [e2] at k3
          cases x with
          | nx r5 => exact fun s5 G5 H5 a b => ⟨r5, G5, b, KS.mono (T := ⟨T.G0, T.H0, r1, G2⟩) k3 rfl rfl a⟩
          | ct r5 => exact fun s5 G5 H5 a b => ⟨r5, G5, b, KS.mono (T := ⟨T.G0, T.H0, r1, G2⟩) k3 rfl rfl a⟩
          | bk r5 => exact fun s5 G5 H5 a b => (show KS X.K X.mg E ⟨T.G0, T.H0, r1, G2⟩ Z (.ok (.nx r5)) from k3) s5 G5 H5 a b
          | rt d => exact k3
          | rm d os => exact k3
def ErrC (K : PySem.W.Frag) (mg : Str → Option Value) (x : Str) : Prop := ∃ C, mg x = some (.ref C) ∧ PySem.W.excIn K C [.type "ValueError", .type "Exception", .type "BaseException", .type "object"] "ValueError.__new__" = true ∧ PySem.W.keepIn K (.ref C) = true ∧ PySem.W.subIn K (.ref C) (.type "BaseException") = some true ∧ PySem.W.typeIn K (.ref C) = some (.type "type")
theorem ss_raise {x m : Str} {j : Nat} {p p2 p3 : Pos} (q : ErrC X.K X.mg x) (hc : X.calm = true) (tk : Takes X E) (hg : Gl X x) (hdb : (x == ("__debug__" : Str)) = false := by decide) :
    SS X E (.Raise (some (.Call (.Name x p) [.Constant (.str m) j p2] [] p3)) none pos) (fun _ => .err x) := by
  obtain ⟨C, h1, h2, h3, h4, h5⟩ := q
  refine ps_imp (ps_raise hc tk (pmk_own PySem.F.excBase_ValueError h2 h1 h3 (raises_own h4 h5) hg hdb)) fun Z s H ⟨T, R, h⟩ => ?_
  have h6 := h s H R.hh
  have e : clsV X.mg x = .ref C := by unfold clsV; rw [h1]; rfl
  rw [e] at h6
  exact h6
end
def runF (fb : Rho → R Fl) (n : Nat) (ds : List D) : R D := match fb (ds.map .im ++ List.replicate (n - ds.length) .un) with
  | .ok (.nx _) => .ok .non
  | .ok (.rt d) => .ok d
  | .ok _ => .stuck
  | .err c => .err c
  | .stuck => .stuck
theorem start_get {N : List Str} {vs : List V} {i : Nat} : (start N vs)[i]?.join = (vs[i]?) := by
  unfold L2.start
  by_cases h : i < vs.length
  · rw [List.getElem?_append_left (by rw [List.length_map]; exact h), List.getElem?_map, List.getElem?_eq_getElem h]
    rfl
  · rw [List.getElem?_append_right (by rw [List.length_map]; omega), List.getElem?_eq_none (by omega : vs.length ≤ i), List.getElem?_replicate]
    split <;> rfl
theorem rel_start0 {K : PySem.W.Frag} {G H : Hp} {N : List Str} {vs : List V} {ds : List D} {tl : List Sl} (hl : N.length = vs.length ∨ vs.length ≤ N.length) (e : Ex G H) (no : ∀ a o, G a = some o → isMk o = false) (r : RpA K G vs ds) (ht : tl = [] ∨ tl = [.st true []]) : Rel K G H (ds.map .im ++ List.replicate (N.length - ds.length) .un ++ tl) (start N vs) G H := by
  have len : (start N vs).length = (ds.map Sl.im ++ List.replicate (N.length - ds.length) Sl.un).length := by
    have := r.length
    unfold L2.start
    simp only [List.length_append, List.length_map, List.length_replicate]
    omega
  have tls : ∀ i x, (ds.map Sl.im ++ List.replicate (N.length - ds.length) Sl.un).length ≤ i → (ds.map Sl.im ++ List.replicate (N.length - ds.length) Sl.un ++ tl)[i]? = some x → x = .st true [] := fun i x hi hx => by
    rw [List.getElem?_append_right hi] at hx
    rcases ht with rfl | rfl
    · simp at hx
    · have := (List.getElem?_eq_some_iff.mp hx).1
      simp only [List.length_cons, List.length_nil] at this
      rw [show i - (ds.map Sl.im ++ List.replicate (N.length - ds.length) Sl.un).length = 0 by omega] at hx
      simpa using hx.symm
  have slots : ∀ i x, i < (ds.map Sl.im ++ List.replicate (N.length - ds.length) Sl.un).length → (ds.map Sl.im ++ List.replicate (N.length - ds.length) Sl.un ++ tl)[i]? = some x → (∃ d, x = .im d ∧ ds[i]? = some d) ∨ x = .un := fun i x hi hx => by
    rw [List.getElem?_append_left hi] at hx
    by_cases h : i < ds.length
    · rw [List.getElem?_append_left (by rw [List.length_map]; exact h), List.getElem?_map, List.getElem?_eq_getElem h] at hx
      cases hx
      exact .inl ⟨_, rfl, List.getElem?_eq_getElem h⟩
    · rw [List.getElem?_append_right (by rw [List.length_map]; omega), List.getElem?_replicate] at hx
      split at hx
      · cases hx; exact .inr rfl
      · cases hx
  refine ⟨Same.refl _, Same.refl _, fun a o q => e _ _ (um_is q).1, fun a q => e.free q, fun a o h n => (by rw [h] at n; cases n), fun i x hx => ?_, fun i j a h1 h2 => ?_, ⟨by rw [len]; simp, by rw [len]; rcases ht with rfl | rfl <;> simp <;> omega, fun i x hx => ?_⟩⟩
  · by_cases h : i < (ds.map Sl.im ++ List.replicate (N.length - ds.length) Sl.un).length
    · rcases slots i x h hx with ⟨d, rfl, hd⟩ | rfl
      · rw [start_get]
        obtain ⟨v, e1, e2⟩ := r.get hd
        exact ⟨v, e1, .pure e2⟩
      · trivial
    · rw [tls i x (by omega) hx]
      refine ⟨fun k ob q => by simp at q, fun a b k ha _ => ?_, fun a k ha => ?_, fun a k ha _ => ?_⟩ <;> exact absurd (no a _ ha) (by simp [mrk, isMk])
  · exfalso
    obtain ⟨q, _⟩ := h1
    cases hx : (ds.map Sl.im ++ List.replicate (N.length - ds.length) Sl.un ++ tl)[i]? with
    | none => rw [hx] at q; exact q
    | some x =>
      rw [hx] at q
      by_cases h : i < (ds.map Sl.im ++ List.replicate (N.length - ds.length) Sl.un).length
      · rcases slots i x h hx with ⟨d, rfl, _⟩ | rfl
        · exact q
        · exact q
      · rw [tls i x (by omega) hx] at q
        exact q
  · by_cases h : i < (ds.map Sl.im ++ List.replicate (N.length - ds.length) Sl.un).length
    · refine ⟨fun q => ?_, fun q => by omega⟩
      rcases slots i x h hx with ⟨d, rfl, _⟩ | rfl
      · exact q.elim
      · exact q.elim
    · rw [tls i x (by omega) hx]
      exact ⟨fun _ => by omega, fun _ => trivial⟩
theorem pre_len {N P : List Str} {sc : Scope} (S : FnScope N P sc) : P.length ≤ N.length := by
  have := congrArg List.length S.pre
  rw [List.length_take] at this
  omega
theorem run_core {K : PySem.W.Frag} {mg : Str → Option Value} {E : XK} {s : St} {G H : Hp} {Q : VK} {x : R Fl} {r : Rho} (no : ∀ a o, G a = some o → isMk o = false) (h : match (match x with
  | .ok (.nx _) => R.ok D.non
  | .ok (.rt d) => .ok d
  | .ok _ => .stuck
  | .err c => .err c
  | .stuck => .stuck) with
  | .ok d => Post K G H d Q
  | .err c => ∀ H', Ex H H' → E (clsV mg c) none H'
  | .stuck => False) : KS K mg (fun cls d _ H => E cls d H) ⟨G, H, r, G⟩ { nx := fun _ H' => Q .non H', rt := Q } x := by
  have gm : ∀ {G'}, Ex G G' → Ex G (um G') := fun {G'} eg a o q => um_of (eg _ _ q) (no a o q)
  cases x with
  | err c => exact fun _ => h
  | stuck => exact h
  | ok f =>
    cases f with
    | nx r' => exact fun s' G' H' _ b => h .non (um G') H' (gm b.gg) b.hh b.gh (fun a o q => (um_is q).2) (fun a o q n => b.nw a o (um_is q).1 n) .non
    | bk r' => exact h.elim
    | ct r' => exact h.elim
    | rt d => exact fun v G' H' a b c f n rv => h v (um G') H' (gm a) b c (fun a o q => (um_is q).2) (fun a o q z => n a o (um_is q).1 z) rv.um
    | rm d os => exact h.elim
theorem run_red {K : PySem.W.Frag} {mg : Str → Option Value} {E : XK} {N : List Str} {vs : List V} {n : Nat} {H : Hp} {Q : VK} {fb : Rho → R Fl} (hl : n ≤ N.length) (h : spF K mg n (runF fb N.length) vs H Q E) : tS K mg (fun cls d _ H => E cls d H) fb { nx := fun _ H' => Q .non H', rt := Q } (start N vs) H := by
  obtain ⟨G, ds, e, no, r, hn, h⟩ := h
  have R := rel_start0 (N := N) (tl := []) (.inr (by rw [r.length, hn]; exact hl)) e no r (.inl rfl)
  rw [List.append_nil] at R
  exact ⟨⟨G, H, _, G⟩, R, run_core (s := start N vs) no h⟩
section
variable {P : Program} {w : World} {K : PySem.W.Frag} {mg : Str → Option Value} {base : Heap}
structure Cxt (X : Cx) (E : WX) (k : Nat) : Prop where
  hr : Room k X.A
  hx : ∀ σ, PassesAt (L2.CX X.prog X.w) X σ (WE E σ)
  hc : X.calm = true
  nd : X.N.Nodup
  po : PassesOwn (model X.prog X.w) X.A X.env X.xe
  tk : Takes X E
theorem fn_ok {x : Str} {params : Arguments} {body : List Stmt} {scope : Scope} {f : Addr} {fd : FuncData} {N ps : List Str} {k : Nat} {fb : Rho → R Fl} (F : FunD K x x params body scope [] [] f fd) (S : FnScope N ps scope)
    (hbody : ∀ (cdv : Value) (A : Around) (outer : List Env) (s : Shared) (H : Hp) (E : XK), Cxt (cxOf (L2.CX P w) P w K mg base N x scope f cdv A outer s H E) (fun cls d _ H => E cls d H) k → SSs (cxOf (L2.CX P w) P w K mg base N x scope f cdv A outer s H E) (fun cls d _ H => E cls d H) body fb) :
    FnOk P w K mg base (L2.CX P w) (k + 1) f fd ps (spF K mg ps.length (runF fb N.length)) := by
  refine F.ok S (fun vs H Q E h => ?_) fun cdv A outer s H vs Q E hr h => ?_
  · obtain ⟨G, ds, _, _, r, hn, _⟩ := h
    rw [r.length, hn]
  · have tk : Takes (cxOf (L2.CX P w) P w K mg base N x scope f cdv A outer s H E) (fun cls d _ H => E cls d H) := takes_of rfl rfl rfl rfl
    exact ⟨_, hbody cdv A outer s H E ⟨hr, fun σ => passAt tk σ, rfl, S.nd, passes_of rfl, tk⟩, run_red (pre_len S) h⟩
theorem fn_def {x : Str} {params : Arguments} {body : List Stmt} {scope : Scope} {f : Addr} {fd : FuncData} {N ps : List Str} {k : Nat} {fb : Rho → R Fl} (F : FunD K x x params body scope [] [] f fd) (hm : mg x = some (.ref f)) (S : FnScope N ps scope)
    (hb : ∀ (kV doc pm : Value) (an : Option Addr) (cdv ct : Value) (us : List Value), us.length = ps.length → bindArgs (PySem.W.fnOf x x params body scope .none kV doc pm an cdv ct) ⟨us, []⟩ = pure (ps.zip us))
    (hbody : ∀ (cdv : Value) (A : Around) (outer : List Env) (s : Shared) (H : Hp) (E : XK), Cxt (cxOf (L2.CX P w) P w K mg base N x scope f cdv A outer s H E) (fun cls d _ H => E cls d H) k → SSs (cxOf (L2.CX P w) P w K mg base N x scope f cdv A outer s H E) (fun cls d _ H => E cls d H) body fb) :
    Fn P w K mg base (k + 1) x ps.length (runF fb N.length) := ⟨f, fd, ps, hm, F.kp, F.bindsN hb, fn_ok F S hbody⟩
end
end PL
end
section
namespace PL
open PySem PySem.Spec PyProof.Rows L2
theorem tuple_mul1 (l : Addr) (items : Array Value) (n : Nat) (dd : Option Addr) (sl : Array (Option Value)) (u : Tok) :
    Meets (Builtin.«tuple.__mul__» ⟨[.ref l, .int 1 u], []⟩) (fun _ R s => s.heap.get? l = some { cls := .type "tuple", dict := dd, data := .seq items n, slots := sl } ∧
      R (.ok (.ret (Value.ref l))) s) :=
  .of_wp fun prog w A R s h => by
    obtain ⟨hp, g, d, tk, os⟩ := s
    obtain ⟨hl, h⟩ := h
    have f1 := AutoSeq1.idx_int
    have c1 : (items.isEmpty || (1 : Int) == 1) = true := by simp
    wp_walk using wpAny_loadPart' hl
    exact ⟨_, rfl, h⟩
def rRepT1 (K : PySem.W.Frag) : R2 := fun x y H Q => ∃ l xs, x = .ref l ∧ y = .int 1 ∧ SqT K H l xs ∧ Q (.ref l) H
theorem op_repT1 {X : Cx} : OpR X (binaryOp .Mult) (rRepT1 X.K) := by
  intro pins s σ H x y v u Q I rx ry h
  obtain ⟨l, xs, rfl, rfl, hT, q⟩ := h
  cases rx
  obtain ⟨t, rfl⟩ := ry
  obtain ⟨its, r, ⟨⟨cls, dd, data, sl⟩, ho, hc, n, hd⟩, hs⟩ := I.tuple hT
  simp only at hc hd
  subst hc hd
  exact wpAny_binaryOp_repeat_ref (T := "tuple") (U := "int") (by decide) ⟨_, ho, rfl⟩ (fun s' => typeIs_int s' 1 t) noFill_tuple_mul F.fills_int_mul F.slot_int_rmul repeat_tuple F.slot_int_index.lookup
    (call_meets F.slot_int_rmul (typeIs_int s 1 t) F.entry_int_rmul (F.args_int_rmul_2 _ _) (int_rmul_tuple 1 t l its.toArray n dd sl)
      ⟨ho, rfl, ⟨_, ho, rfl⟩, call_meets F.slot_tuple_mul ⟨_, ho, rfl⟩ F.entry_tuple_mul (F.args_tuple_mul_2 _ _) (tuple_mul1 l its.toArray n dd sl t) ⟨ho, ⟨.ref l, H, I, rfl, q⟩⟩⟩)
noncomputable def repB (n : Nat) (k : Int) : Bool := okB (-(2 ^ 63) ≤ k ∧ k < 2 ^ 63 ∧ n * k.toNat ≤ sizeLine)
noncomputable def mulD (r : Rho) (x y : D) : R D := match x, y with
  | .int i, .int j => if mulB i j then .ok (.int (i * j)) else .stuck
  | .tup ds, .int k => if decide (k = 1) then .ok (.tup ds) else if okB (ds ≠ [] ∧ 2 ≤ k ∧ k ≤ 1000 ∧ ds.length ≤ 1000) then .ok (.tup (List.replicate k.toNat ds).flatten) else .stuck
  | x, .int k => match viewL r x with
    | some ds => if repB ds.length k then .ok (.lst (List.replicate k.toNat ds).flatten) else .stuck
    | none => .stuck
  | _, _ => .stuck
abbrev rMulD (K : PySem.W.Frag) : R2 := fun x y H Q => rI CM (fun i j => .int (i * j)) x y H Q ∨ rRep x y H Q ∨ rRepT K x y H Q ∨ rRepT1 K x y H Q
theorem op_mulD {X : Cx} : OpR X (binaryOp .Mult) (rMulD X.K) := op_mulA.or (op_rep.or (op_repT.or op_repT1))
theorem ops_mulD {K : PySem.W.Frag} : OpS K (rMulD K) mulD := by
  intro mg E T s H x y dx dy Q R rx ry h
  cases dy with
  | int k =>
    cases (show Rp K T.G y (.int k) from ry)
    have lists : KE K mg E T s H (fun d G' H' => ∀ v, RpE K G' s v d → Q v H') (match viewL T.r dx with
      | some ds => if repB ds.length k then .ok (.lst (List.replicate k.toNat ds).flatten) else .stuck
      | none => .stuck) → rMulD K x (.int k) H Q := fun hk => by
      cases e : viewL T.r dx with
      | none => rw [e] at hk; exact hk.elim
      | some es =>
        rw [e] at hk
        simp only at hk
        cases e2 : repB es.length k with
        | false => rw [e2] at hk; exact hk.elim
        | true =>
          rw [e2] at hk
          obtain ⟨a, xs, rfl, hq, hr⟩ := viewL_ok R rx e
          have e3 := okB_iff.mp e2
          refine .inr (.inl ⟨a, k, xs, rfl, rfl, hq, e3.1, e3.2.1, by rw [hr.length]; exact e3.2.2, fun l hl => ?_⟩)
          exact finNew (.lst _) hk R hl (Rp.lst upd_same ((hr.replicate k.toNat).mono (ex_new (R.gf _ hl))))
    cases dx with
    | int i =>
      cases (show Rp K T.G x (.int i) from rx)
      exact .inl (ops_mulI mg E T s H _ _ (.int i) (.int k) Q R rx ry h)
    | tup ds =>
      obtain ⟨p, xs, rfl, hp0, hp, hr⟩ := tup_ok R rx
      simp only [mulD] at h
      cases e1 : decide (k = 1) with
      | true =>
        rw [e1] at h
        have e2 := of_decide_eq_true e1
        subst e2
        exact .inr (.inr (.inr ⟨p, xs, rfl, rfl, hp, fin (.tup ds) h R (Rp.tup hp0 hr)⟩))
      | false =>
        rw [e1] at h
        have h2 : KE K mg E T s H (fun d G' H' => ∀ v, RpE K G' s v d → Q v H') (if okB (ds ≠ [] ∧ 2 ≤ k ∧ k ≤ 1000 ∧ ds.length ≤ 1000) then .ok (.tup (List.replicate k.toNat ds).flatten) else .stuck) := h
        cases e2 : okB (ds ≠ [] ∧ 2 ≤ k ∧ k ≤ 1000 ∧ ds.length ≤ 1000) with
        | false => rw [e2] at h2; exact h2.elim
        | true =>
          rw [e2] at h2
          have e3 := okB_iff.mp e2
          refine .inr (.inr (.inl ⟨p, k, xs, rfl, rfl, hp, fun z => ?_, e3.2.1, e3.2.2.1, by rw [hr.length]; exact e3.2.2.2, fun l hl => ?_⟩))
          · subst z
            cases hr
            exact e3.1 rfl
          · exact finNew (.tup _) h2 R hl (Rp.tup (SqT.of upd_same) ((hr.replicate k.toNat).mono (ex_new (R.gf _ hl))))
    | _ => exact lists h
  | _ => cases dx <;> exact h.elim
def intsOf : List D → Option (List Int)
  | [] => some []
  | .int b :: ds => (intsOf ds).map (b :: ·)
  | _ => none
theorem intsOf_ok {K : PySem.W.Frag} {G : Hp} : ∀ {v : List V} {d : List D} {bs : List Int}, intsOf d = some bs → RpA K G v d → v = bs.map V.int
  | _, [], bs, h, .nil => by cases h; rfl
  | _, d :: ds, bs, h, .cons h1 r => by
    cases d with
    | int b =>
      have h2 : (intsOf ds).map (b :: ·) = some bs := h
      cases e : intsOf ds with
      | none => rw [e] at h2; cases h2
      | some cs =>
        rw [e] at h2
        cases h2
        cases h1
        rw [intsOf_ok e r]
        rfl
    | _ => cases h
def intsD (g : List Int → R D) (r : Rho) : List D → R D
  | [d] => match viewL r d with
    | some ds => (match intsOf ds with
      | some bs => g bs
      | none => .stuck)
    | none => .stuck
  | _ => .stuck
theorem ints_core {K : PySem.W.Frag} {mg : Str → Option Value} {E : WX} {g : List Int → R D} {T : Stt} {s : St} {H : Hp} {xs : List V} {ds : List D} {Q : VK} (R : Rl K T s H) (rs : RpL K T.G s xs ds)
    (h : KE K mg E T s H (fun d G' H' => ∀ v, RpE K G' s v d → Q v H') (intsD g T.r ds)) : ∃ (a : Addr) (bs : List Int), xs = [.ref a] ∧ SqL K H a (bs.map V.int) ∧ KE K mg E T s H (fun d G' H' => ∀ v, RpE K G' s v d → Q v H') (g bs) := by
  cases rs with
  | nil => exact h.elim
  | @cons v vs d ds rv rr =>
    cases rr with
    | cons _ _ => exact h.elim
    | nil =>
      simp only [intsD] at h
      cases e : viewL T.r d with
      | none => rw [e] at h; exact h.elim
      | some es =>
        rw [e] at h
        simp only at h
        cases e2 : intsOf es with
        | none => rw [e2] at h; exact h.elim
        | some bs =>
          rw [e2] at h
          obtain ⟨a, xs, rfl, hq, hr⟩ := viewL_ok R rv e
          have ex := intsOf_ok e2 hr
          subst ex
          exact ⟨a, bs, rfl, SqL.of hq, h⟩
def sumD : Rho → List D → R D := intsD fun bs => .ok (.int bs.sum)
theorem cs_sum {K : PySem.W.Frag} : CallS K (rSum K) sumD := fun mg E T s H xs ds Q R rs h => by
  obtain ⟨a, bs, e1, e2, e3⟩ := ints_core R rs h
  exact ⟨a, bs, e1, e2, fin (.int _) e3 R (Rp.int _)⟩
def fFrz (i : Nat) (g : Rho → R Fl) (r : Rho) : R Fl := match r[i]? with
  | some (.ol ds) => g (r.set i (.im (.lst ds)))
  | some (.od ks) => g (r.set i (.im (.dic ks)))
  | _ => .stuck
theorem pss_lockK {X : Cx} {sts : List Stmt} {t : TS} (h : PSs X sts t) : PSs X sts (fun Z s H => t Z s H ∨ ∃ d kvs, H d = some (.dK kvs) ∧ ∀ od, t Z s (upd H d (.frz od (.dK kvs)))) := ⟨fun pins s σ H Z I q => by
  rcases q with q | ⟨d, kvs, hd, q⟩
  · exact h.run pins s σ H Z I q
  · obtain ⟨od, I1⟩ := I.lock hd trivial
    exact h.run pins s σ _ Z I1 (q od)⟩
theorem Rel.poke {K : PySem.W.Frag} {G0 H0 G H : Hp} {r : Rho} {s : St} {p : Addr} {o u : HO} (R : Rel K G0 H0 r s G H) (hp : H p = some u) (hg : G p = none) (h0 : H0 p = none) (hn : ∀ i, ¬ OwnAt r s i p) : Rel K G0 H0 r s G (upd H p o) where
  gg := R.gg
  hh := ex_into R.hh h0
  gh := ex_into R.gh (um_none hg)
  gf := fun a q => R.gf_upd q
  nw := R.nw
  sl := fun i x hx => by
    have q := R.sl i x hx
    cases x with
    | un => exact q
    | im d => exact q
    | ol ds =>
      obtain ⟨a, xs, e1, e2, e3⟩ := q
      have na : a ≠ p := fun z => by
        subst z
        refine hn i ⟨?_, ?_⟩
        · rw [hx]; trivial
        · cases e6 : s[i]? with
          | none => rw [e6] at e1; cases e1
          | some w => rw [e6] at e1; exact congrArg some e1
      exact ⟨a, xs, e1, by rw [upd_ne na]; exact e2, e3⟩
    | od ds =>
      obtain ⟨a, xs, e1, e2, e3⟩ := q
      have na : a ≠ p := fun z => by
        subst z
        refine hn i ⟨?_, ?_⟩
        · rw [hx]; trivial
        · cases e6 : s[i]? with
          | none => rw [e6] at e1; cases e1
          | some w => rw [e6] at e1; exact congrArg some e1
      exact ⟨a, xs, e1, by rw [upd_ne na]; exact e2, e3⟩
    | st w os => exact StOk.off hg q
  ds := R.ds
  ln := R.ln
theorem sss_frz (i : Nat) {X : Cx} {E : WX} {sts : List Stmt} {g : Rho → R Fl} (h : SSs X E sts g) : SSs X E sts (fFrz i g) :=
  pss_imp (pss_lockK h) fun Z s H ⟨T, R, h⟩ => by
    unfold fFrz at h
    cases e : T.r[i]? with
    | none => rw [e] at h; exact h.elim
    | some x =>
      rw [e] at h
      have q := R.sl i x e
      have key : ∀ {a : Addr} {o : HO} {d : D} [UnM o], OwnAt T.r s i a → s[i]? = some (some (.ref a)) → H a = some o → ∀ o', UnM o' → (∀ G, Ex T.G G → G a = some o' → Rp X.K G (.ref a) d) → KS X.K X.mg E T Z (g (T.r.set i (.im d))) → tS X.K X.mg E g Z s (upd H a o') := fun {a o d} _ ow si ha o' uo mk hk => by
        obtain ⟨_, hg, h0⟩ := own_in R ow
        have hsl : i < s.length := (List.getElem?_eq_some_iff.mp si).1
        have hi : i < T.r.length := Nat.lt_of_lt_of_le hsl R.ln.lo
        have ge : Ex T.G (upd T.G a o') := ex_new hg
        have R1 : Rel X.K T.G0 T.H0 (T.r.set i .un) (s.set i (some (.ref a))) T.G H := R.setUn hsl
        have hn : ∀ j, ¬ OwnAt (T.r.set i .un) (s.set i (some (.ref a))) j a := fun j o2 => by
          obtain ⟨q1, q2⟩ := o2
          by_cases z : j = i
          · subst z
            rw [List.getElem?_set_self hi] at q1
            exact q1
          · rw [List.getElem?_set_ne (Ne.symm z)] at q1 q2
            exact z (R.ds j i a ⟨q1, q2⟩ ow)
        have R2 := (R1.poke (o := o') ha hg h0 hn).freeze upd_same h0 hg hn
        have R3 := R2.setIm (i := i) (.pure (mk _ ge upd_same)) (by rw [List.length_set]; exact hsl)
        have es : (s.set i (some (.ref a))).set i (some (.ref a)) = s := by
          rw [List.set_set]
          apply List.ext_getElem?
          intro j
          by_cases z : i = j
          · subst z
            rw [List.getElem?_set_self hsl, si]
          · rw [List.getElem?_set_ne z]
        have er : (T.r.set i .un).set i (.im d) = T.r.set i (.im d) := List.set_set ..
        rw [es, er] at R3
        exact ⟨⟨T.G0, T.H0, T.r.set i (.im d), upd T.G a o'⟩, R3, KS.mono (T' := ⟨T.G0, T.H0, T.r.set i (.im d), upd T.G a o'⟩) hk rfl rfl ge⟩
      cases x with
      | ol ds =>
        obtain ⟨a, xs, ow, si, ha, hr⟩ := own_at R e
        have q := key ow si ha (.lst xs) ⟨rfl⟩ (fun G eG hG => Rp.lst hG (hr.mono eG)) h
        have eu : upd H a (.lst xs) = H := funext fun b => by
          by_cases z : b = a
          · rw [z, upd_same, ha]
          · rw [upd_ne z]
        rw [eu] at q
        exact .inl q
      | od ks =>
        obtain ⟨a, xs, e1, e2, e3, e4, e5⟩ := q
        have si : s[i]? = some (some (.ref a)) := by
          cases e6 : s[i]? with
          | none => rw [e6] at e1; cases e1
          | some o => rw [e6] at e1; exact congrArg some e1
        exact .inr ⟨a, xs, e2, fun o => key ⟨by rw [e]; trivial, si⟩ si e2 (.frz o (.dK xs)) ⟨rfl⟩ (fun G eG hG => Rp.dic hG (e5.mono eG)) h⟩
      | _ => exact h.elim
def mAbs (i : Nat) (r : Rho) : Nat := match r[i]? with
  | some (.im (.int z)) => z.natAbs + 2
  | _ => 0
abbrev fK (d : D) : Rho → R D := fun _ => .ok d
structure Bts (mg : Str → Option Value) : Prop where
  len : mg "len" = none
  isinstance : mg "isinstance" = none
  range : mg "range" = none
  tuple : mg "tuple" = none
  list : mg "list" = none
  dict : mg "dict" = none
  zip : mg "zip" = none
  sorted : mg "sorted" = none
  all : mg "all" = none
  any : mg "any" = none
  enumerate : mg "enumerate" = none
  set : mg "set" = none
  str : mg "str" = none
  abs : mg "abs" = none
  int : mg "int" = none
  bool : mg "bool" = none
  max : mg "max" = none
  min : mg "min" = none
  sum : mg "sum" = none
end PL
end
section
namespace PL
open PySem PySem.Spec PyProof.Rows L2
def tkey (e : Int × Value) : Str := match e.2 with
  | .str k _ => k
  | _ => Str.empty
def TSt (w : World) (h : Heap) (a : Addr) (ks : List Str) : Prop :=
  ∃ o es ep t, h.get? a = some o ∧ o.ExactSet ∧ o.data = .set es ep t ∧ (∀ e ∈ es.toList, ∃ k tk, e.2 = Value.str k tk ∧ e.1 = hashStr w k) ∧ (es.toList.map tkey).Perm ks ∧ ks.Nodup ∧
    es.size < scanBound ∧ t.fits es.size = true ∧ Ris t.place.toList ∧ (w.params.followText "set-order" = true ∨ t.led = true)
section
variable {P : Program} {w : World} {A : Around} {E : Value → Shared → Prop} {s : Shared} {a : Addr} {ks : List Str}
theorem TSt.keep {h h' : Heap} (R : TSt w h a ks) (k : ∀ o, h.get? a = some o → h'.get? a = some o) : TSt w h' a ks := by
  obtain ⟨o, es, ep, t, ho, r⟩ := R
  exact ⟨o, es, ep, t, k o ho, r⟩
theorem tel {l : List (Int × Value)} (g : ∀ e ∈ l, ∃ k tk, e.2 = Value.str k tk ∧ e.1 = hashStr w k) : ElemsOf (PySem.strKind P w) l := fun e he => by
  obtain ⟨k, tk, h1, h2⟩ := g e he
  exact ⟨⟨k, by rw [h1]; exact strKind_is P w k tk, h2⟩, by rw [h1] <;> rfl⟩
theorem tis {e : Int × Value} (g : ∃ k tk, e.2 = Value.str k tk ∧ e.1 = hashStr w k) (k : Str) : (PySem.strKind P w).is k e.2 = true ↔ tkey e = k := by
  obtain ⟨k0, tk, h1, _⟩ := g
  unfold tkey
  rw [h1]
  constructor
  · intro z
    have z2 : Value.isStrOf k (.str k0 tk) = true := z
    simpa [Value.isStrOf] using z2
  · intro z
    have z2 : k0 = k := z
    rw [z2]
    exact strKind_is P w k tk
theorem tst_tail {g : Bool → Sem Unit} (hg : ∀ (b : Bool) (s1 : Shared) (Q' : Unit → Shared → Prop), Q' () s1 → wpAny (model P w) A (g b) Q' E s1)
    {o : Obj} {es : Array (Int × Value)} {ep : Nat} {t : SetTable} (ho : s.heap.get? a = some o) (hex : o.ExactSet) (hd : o.data = .set es ep t)
    {es1 : Array (Int × Value)} {t2 : SetTable} (g1 : ∀ e ∈ es1.toList, ∃ k tk, e.2 = Value.str k tk ∧ e.1 = hashStr w k) (p1 : (es1.toList.map tkey).Perm ks) (nd1 : ks.Nodup)
    (hb1 : es1.size < scanBound) (hf2 : t2.fits es1.size = true) (hr : Ris t2.place.toList) (hl : w.params.followText "set-order" = true ∨ t2.led = true) {wasDummy : Bool} {R : Option Bool → Shared → Prop}
    (hR : ∀ h', Heap.SameBut a s.heap h' → TSt w h' a ks → R (some true) { s with heap := h' }) :
    wpAny (model P w) A (do
        storeSet a es1 t2
        if (!wasDummy && t2.tooFull) = true then do
            g (relayAll t2 es1 (SetTable.grown es1.size)).2.2
            storeSet a (relayAll t2 es1 (SetTable.grown es1.size)).1 (relayAll t2 es1 (SetTable.grown es1.size)).2.1
            pure (some true)
          else pure (some true)) R E s := by
  refine wpAny_bind (wpAny_storeSet_of ho hd ?_ (fits_of_scanBound hb1))
  have ho1 := store_at (es' := es1) (t' := t2) ho hd
  have sb1 := Heap.SameBut.update s.heap a (Obj.putSet es1 t2)
  split
  · have pm := relayAll_perm t2 es1 (SetTable.grown es1.size)
    have hf3 := relayAll_fits t2 es1 (SetTable.grown es1.size)
    have hr3 := relayAll_ris t2 es1 (SetTable.grown es1.size)
    have hl3 := relayAll_led t2 es1 (SetTable.grown es1.size)
    generalize relayAll t2 es1 (SetTable.grown es1.size) = Z at pm hf3 hr3 hl3 ⊢
    obtain ⟨es2, t3, gave⟩ := Z
    dsimp only at pm hf3 hr3 hl3 ⊢
    have hsz : es2.size = es1.size := by rw [← Array.length_toList, pm.length_eq, Array.length_toList]
    have hb2 : es2.size < scanBound := by rw [hsz]; exact hb1
    refine wpAny_bind (hg _ _ _ ?_)
    refine wpAny_bind (wpAny_storeSet_of ho1 rfl ?_ (fits_of_scanBound hb2))
    have ho2 := store_at (es' := es2) (t' := t3) ho1 rfl
    refine wpAny_pure (hR _ (sb1.trans (Heap.SameBut.update _ a _)) ?_)
    exact ⟨_, es2, _, t3, ho2, hex, rfl, fun e he => g1 e (pm.mem_iff.mp he), (pm.map tkey).trans p1, nd1, hb2, hf3, hr3, hl.imp id fun z => by rw [hl3]; exact z⟩
  · exact wpAny_pure (hR _ sb1 ⟨_, es1, _, t2, ho1, hex, rfl, g1, p1, nd1, hb1, hf2, hr, hl⟩)
theorem tst_add {k : Str} {tk : Tok} {Q : Bool → Shared → Prop} (R : TSt w s.heap a ks) (room : ks.length + 1 < scanBound)
    (hQ : ∀ h' b, Heap.SameBut a s.heap h' → TSt w h' a (if k ∈ ks then ks else k :: ks) → Q b { s with heap := h' }) :
    wpAny (model P w) A (setAddHashed a (.str k tk) ((PySem.strKind P w).hash k)) Q E s := by
  obtain ⟨o, es, ep, t, ho, hex, hd, g, p, nd, hb, hf, hr, hl⟩ := R
  have hkey : (PySem.strKind P w).is k (.str k tk) = true := strKind_is P w k tk
  have hsc : (Value.str k tk).scannable = true := rfl
  have hel : ElemsOf (PySem.strKind P w) es.toList := tel g
  unfold setAddHashed setAddHashedIn
  refine wpAny_holding (wpAny_bind (wpAny_setState_of ho hd hf ?_))
  dsimp only
  rw [byScan_of hsc hb hel]
  simp only [↓reduceIte]
  unfold setAddByScan
  refine wpAny_bind ?_
  refine wpAny_bind (wpAny_rule ?_)
  refine wpAny_bind (wpAny_setScan_of hkey ho hd hf hel ?_)
  cases hfi : List.findIdx? (fun e => (PySem.strKind P w).is k e.2) es.toList with
  | some j =>
    dsimp only
    obtain ⟨hj, pj, _⟩ := List.findIdx?_eq_some_iff_getElem.mp hfi
    have hk : k ∈ ks := p.mem_iff.mp (List.mem_map.mpr ⟨es.toList[j], List.getElem_mem hj, (tis (g _ (List.getElem_mem hj)) k).mp pj⟩)
    refine wpAny_pure (wpAny_pure ?_)
    have q := hQ s.heap false (Heap.SameBut.refl a s.heap)
    rw [if_pos hk] at q
    exact q ⟨o, es, ep, t, ho, hex, hd, g, p, nd, hb, hf, hr, hl⟩
  | none =>
    dsimp only
    have hnk : k ∉ ks := fun z => by
      obtain ⟨e, he, q⟩ := List.mem_map.mp (p.mem_iff.mpr z)
      have c := List.findIdx?_eq_none_iff.mp hfi e he
      rw [(tis (g e he) k).mpr q] at c
      cases c
    have hgw : ∀ (b : Bool) {s1 : Shared} {Q' : Unit → Shared → Prop}, Q' () s1 → wpAny (model P w) A (match b with | true => rule "set.scan.the-table-gave-way" | false => pure ()) Q' E s1 :=
      fun b s1 Q' q => by cases b <;> first | exact wpAny_pure q | exact wpAny_rule q
    have pm := layNew_perm t es ((PySem.strKind P w).hash k) (.str k tk)
    have hf1 := layNew_fits t es ((PySem.strKind P w).hash k) (.str k tk)
    have hr1 := layNew_ris t es ((PySem.strKind P w).hash k) (.str k tk) hr
    have hl1 := layNew_led t es ((PySem.strKind P w).hash k) (.str k tk)
    generalize layNew t es ((PySem.strKind P w).hash k) (.str k tk) = Z at pm hf1 hr1 hl1 ⊢
    obtain ⟨es1, t1, wasDummy, gave⟩ := Z
    dsimp only at pm hf1 hr1 hl1 ⊢
    rw [Array.toList_push] at pm
    have pc : es1.toList.Perm (((PySem.strKind P w).hash k, Value.str k tk) :: es.toList) := pm.trans (List.perm_append_singleton _ _)
    have pk : (es1.toList.map tkey).Perm (k :: ks) := (pc.map tkey).trans (p.cons k)
    have g1 : ∀ e ∈ es1.toList, ∃ k tk, e.2 = Value.str k tk ∧ e.1 = hashStr w k := fun e he => by
      rcases List.mem_cons.mp (pc.mem_iff.mp he) with z | z
      · rw [z]; exact ⟨k, tk, rfl, rfl⟩
      · exact g e z
    have hsz : es1.size = ks.length + 1 := by
      have z := pk.length_eq
      rw [List.length_map, Array.length_toList, List.length_cons] at z
      exact z
    have hb1 : es1.size < scanBound := by rw [hsz]; exact room
    have nd1 : (k :: ks).Nodup := List.nodup_cons.mpr ⟨hnk, nd⟩
    have hled : w.params.followText "set-order" = true ∨ t1.led = true := hl.imp id fun z => by rw [hl1]; exact z
    have fin : ∀ h', Heap.SameBut a s.heap h' → TSt w h' a (k :: ks) → Q true { s with heap := h' } := fun h' sb r => by
      have q := hQ h' true sb
      rw [if_neg hnk] at q
      exact q r
    refine wpAny_bind (hgw _ ?_)
    split
    · refine wpAny_bind ?_
      rw [hashByValue_scannable 8 hsc]
      refine wpAny_pure ?_
      refine tst_tail ?_ ho hex hd g1 pk nd1 hb1 ?_ ?_ ?_ ?_
      · intro b s1 Q' q; cases b <;> first | exact wpAny_pure q | exact wpAny_rule q
      · first | (split <;> first | exact hf1 | exact SetTable.fits_plain_off hf1) | exact hf1
      · first | (split <;> exact hr1) | exact hr1
      · first | (split <;> exact hled) | exact hled
      · intro h' sb r; dsimp only; exact wpAny_pure (fin h' sb r)
    · refine wpAny_bind (wpAny_pure ?_)
      simp only [↓reduceIte]
      refine tst_tail ?_ ho hex hd g1 pk nd1 hb1 hf1 hr1 hled ?_
      · intro b s1 Q' q; cases b <;> first | exact wpAny_pure q | exact wpAny_rule q
      · intro h' sb r; dsimp only; exact wpAny_pure (fin h' sb r)
theorem tst_fresh {h : Heap} (ho : h.get? a = some { cls := .type "set", dict := none, data := .set #[] 0 (.fresh 0 0 (!w.params.followText "set-order")) }) : TSt w h a [] :=
  ⟨_, #[], 0, _, ho, ⟨rfl, rfl, rfl⟩, rfl, (fun e he => by simp at he), (by simp), List.nodup_nil, (by decide), (by rfl), List.Pairwise.nil, by
    show _ ∨ (!w.params.followText "set-order") = true
    cases w.params.followText "set-order"
    · exact .inr rfl
    · exact .inl rfl⟩
end
def seenT : List Str → List Str → List Str
  | ks, [] => ks
  | ks, x :: xs => seenT (if x ∈ ks then ks else x :: ks) xs
theorem seenT_len : ∀ (xs ks : List Str), (seenT ks xs).length ≤ ks.length + xs.length
  | [], _ => by simp [seenT]
  | x :: xs, ks => by
    have := seenT_len xs (if x ∈ ks then ks else x :: ks)
    have e : (if x ∈ ks then ks else x :: ks).length ≤ ks.length + 1 := by split <;> simp
    show (seenT (if x ∈ ks then ks else x :: ks) xs).length ≤ _
    rw [List.length_cons]
    omega
theorem seenT_snoc : ∀ (xs ks : List Str) (x : Str), seenT ks (xs ++ [x]) = if x ∈ seenT ks xs then seenT ks xs else x :: seenT ks xs
  | [], _, _ => rfl
  | y :: xs, ks, x => seenT_snoc xs _ x
section
variable {prog : Program} {w : World} {A : Around} {R : Result → Shared → Prop} {I : Addr} {fp wr : List Addr} {G : Array GenState → Array GenState → Prop} {n : Nat} {P : Nat → Value → Prop} {St : Nat → Shared → Prop}
theorem tst_loop (W : WalksS prog w A.in1 I fp wr G n P St) (S : Addr) (hSf : S ∉ fp) (xs : List Str) (hsz : xs.length = n) (hn1 : n < 1000)
    (hval : ∀ i v, P i v → ∃ x t, xs[i]? = some x ∧ v = .str x t) :
    ∀ (k i : Nat) (s : Shared), n - i = k → i ≤ n → St i s → TSt w s.heap S (seenT [] (xs.take i)) →
      (∀ s', Moved (S :: wr) G s s' → TSt w s'.heap S (seenT [] xs) → R (.ok (.ret .none)) s') →
      codeAny (model prog w) A (.builtin "set.update.loop" ⟨[.ref S, .ref I], []⟩) R s := by
  have hSw : S ∉ wr := fun h => hSf (W.sub _ h)
  have hsub : ∀ b ∈ wr, b ∈ S :: wr := fun b hb => List.mem_cons_of_mem _ hb
  intro k
  induction k with
  | zero =>
    intro i s hk hi hst hS hR
    have hin : i = n := by omega
    subst hin
    refine codeAny_builtin PyProof.Rows.F.entry_set_update_loop ?_
    rw [Around.under_plainId PyProof.Rows.F.plain_set_update_loop _]
    show wpAny _ A.in1 (pyNext (.ref I) >>= _) _ _ s
    refine wpAny_bind (W.done s _ _ hst fun s' hm => ?_)
    show wpAny _ A.in1 (ret Value.none) _ _ s'
    rw [← hsz, List.take_length] at hS
    exact wpAny_pure (hR s' (hm.mono hsub) (hS.keep fun o e => hm.heap S o hSw e))
  | succ k ih =>
    intro i s hk hi hst hS hR
    have hlt : i < n := by omega
    refine codeAny_builtin PyProof.Rows.F.entry_set_update_loop ?_
    rw [Around.under_plainId PyProof.Rows.F.plain_set_update_loop _]
    show wpAny _ A.in1 (pyNext (.ref I) >>= _) _ _ s
    refine wpAny_bind (W.item i s _ _ hlt hst fun v s' hP hst' hm => ?_)
    obtain ⟨x, t, hx, rfl⟩ := hval i v hP
    have hS' : TSt w s'.heap S (seenT [] (xs.take i)) := hS.keep fun o e => hm.heap S o hSw e
    show wpAny _ A.in1 (holding [Value.str x t] (setAdd S (.str x t)) >>= _) _ _ s'
    refine wpAny_bind (wpAny_holding ?_)
    unfold setAdd
    refine wpAny_holding ?_
    refine wpAny_bind ((PySem.strKind prog w).pyHash (k := x) (strKind_is _ _ _ _) ?_)
    refine tst_add (s := { s' with toks := s'.toks + 1 }) hS' (by
      have a := seenT_len (xs.take i) []
      have b : (xs.take i).length ≤ i := by rw [List.length_take]; omega
      have c : ([] : List Str).length = 0 := rfl
      unfold scanBound
      omega) fun h' b hsb hS2 => ?_
    have e : xs.take (i + 1) = xs.take i ++ [x] := by
      rw [List.take_succ, hx]; rfl
    rw [← seenT_snoc, ← e] at hS2
    refine wpAny_pure ⟨plainId_quiet PyProof.Rows.F.plain_set_update_loop _, ih (i + 1) _ (by omega) hlt (W.frame _ s' _ _ hst' (Nat.le_succ _) fun b hb o e => ?_) hS2 fun s'' hm'' hS'' => ?_⟩
    · rw [hsb.2 b (fun h : b = S => hSf (by rw [← h]; exact hb))]; exact e
    · refine hR s'' (Moved.trans W.gtrans ((hm.mono hsub).then_heap (Nat.le_succ _) fun b o hb e => ?_) hm'') hS''
      rw [hsb.2 b (fun h : b = S => hb (by rw [h]; exact List.mem_cons_self))]; exact e
end
section
variable {P : Program} {w : World} {A : Around} {E : Value → Shared → Prop} {s : Shared}
abbrev newSet (w : World) : Obj := { cls := .type "set", dict := none, data := .set #[] 0 (.fresh 0 0 (!w.params.followText "set-order")) }
theorem call_setT {l : Addr} {items : Array Value} {xs : List Str} {Q : Value → Shared → Prop} (hh : A.handled = none) (hl : s.heap.IsList l items) (hi : StrsAre items.toList xs) (hn1 : xs.length < 1000)
    (h : ∀ (h' : Heap) (tk : Nat), TSt w h' s.heap.objs.size (seenT [] xs) → (∀ b o, s.heap.get? b = some o → h'.get? b = some o) → Q (.ref s.heap.objs.size) { s with heap := h', toks := tk }) :
    wpAny (model P w) A (call (.type "set") [.ref l]) Q E s := by
  obtain ⟨c, tl, hmro⟩ := PySem.F.called_set.mro
  have hmade := PySem.F.called_set.made
  have hsub := PySem.F.called_set.sub
  refine wpAny_call (codeAny_of_tree ?_)
  show wpAny _ _ (callAny (.type "set") _) _ _ _
  refine wpAny_pure ⟨Code.quiet_builtin _ (by decide +kernel), codeAny_builtin PySem.F.entry_type_call ?_⟩
  rw [Around.under_plain (weight_type_call_type "set" [.ref l] []) rfl]
  have h1 := PySem.F.called_set.notType
  have h2 := PySem.F.called_set.canCreate
  have hct := PySem.F.typeCall_set_1 (.ref l)
  repeat (any_goals (first | assumption | wp_step))
  refine codeAny_mono (code_set_led1 (.ref l) (E := E) (Q₁ := fun obj s1 => obj = .ref s.heap.objs.size ∧ s1 = { s with heap := s.heap.push (newSet w) }) ⟨rfl, rfl⟩) fun r s1 hr => ?_
  cases r with
  | error e => exact hr
  | ok fl =>
    cases fl with
    | ret obj =>
      obtain ⟨rfl, rfl⟩ := hr
      have hS : (s.heap.push (newSet w)).get? s.heap.objs.size = some (newSet w) := Heap.get?_push_size _ rfl
      have hT : Shared.TypeIs { s with heap := s.heap.push (newSet w) } (.ref s.heap.objs.size) "set" := ⟨_, hS, rfl⟩
      have hli := PySem.F.called_set.init.lookup
      have hbi := PySem.F.called_set.init.bind (.ref s.heap.objs.size)
      repeat (any_goals (first | assumption | wp_step))
      refine codeAny_mono (codeAny_call_builtin (R := wants (fun r s2 => r = .none ∧ ∃ h' tk, s2 = { s with heap := h', toks := tk } ∧ TSt w h' s.heap.objs.size (seenT [] xs) ∧
          (∀ b o, s.heap.get? b = some o → h'.get? b = some o)) E) PySem.F.called_set.init.plain PySem.F.entry_set_init (check_set_init_1 hT ?_)) fun r2 s2 hr2 => ?_
      · obtain ⟨ol, hol, hcl, nl, hdl⟩ := hl
        obtain ⟨ocls, odict, odata, oslots⟩ := ol
        simp only at hcl hdl
        subst hcl; subst hdl
        have hol' : (s.heap.push (newSet w)).get? l = some { cls := .type "list", dict := odict, data := .seq items nl, slots := oslots } := Heap.get?_push_of_some _ hol
        have hsls := PySem.F.sub_list_set
        have hslf := PySem.F.sub_list_frozenset
        have hne : (Value.type "list" == Value.type "dict") = false := by decide
        have hl1 : (s.heap.push (newSet w)).IsList l items := ⟨_, hol', rfl, nl, rfl⟩
        unfold Builtin.«set.__init__» noKeywords Builtin.Frozenset.updateFrom
        generalize hPI : pyIter = PI
        wp_walk
        subst hPI
        refine wpAny_pyIter_list hl1 ?_
        refine wpAny_bind (wpAny_runValue ?_)
        have hlS : l < s.heap.objs.size := Heap.lt_size hol
        have hh3 : A.in1.in1.in1.handled = none := by simp [hh]
        have hneI : l ≠ (s.heap.push (newSet w)).objs.size := by
          rw [Heap.size_push]; exact Nat.ne_of_lt (Nat.lt_succ_of_lt hlS)
        have hSf : s.heap.objs.size ∉ [(s.heap.push (newSet w)).objs.size, l] := by
          rw [Heap.size_push]; simp only [List.mem_cons, List.mem_singleton, List.not_mem_nil, or_false, not_or]
          exact ⟨Nat.ne_of_lt (Nat.lt_succ_self _), Nat.ne_of_gt hlS⟩
        have hsz : xs.length = items.size := by rw [← StrsAre.len_eq hi, Array.length_toList]
        have hval : ∀ (i : Nat) (v : Value), items[i]? = some v → ∃ x t, xs[i]? = some x ∧ v = .str x t := fun i v hv => by
          have hv' : items.toList[i]? = some v := by rw [Array.getElem?_toList]; exact hv
          obtain ⟨t, e⟩ := SS.strs_at hi i v hv'
          have hi2 : i < xs.length := by
            rw [hsz, ← Array.length_toList]
            exact (List.getElem?_eq_some_iff.mp hv').1
          exact ⟨_, t, by simp [List.getD, hi2], e⟩
        refine tst_loop ((Walks.list hh3 _ l hneI items).toS) s.heap.objs.size
          hSf xs hsz (by rw [← hsz]; exact hn1) hval (items.size - 0) 0 _ (by omega) (Nat.zero_le _)
          ⟨⟨_, Heap.get?_push_size _ rfl, rfl, rfl⟩, (hl1.push _)⟩ ?hS0 ?hR
        case hS0 => exact tst_fresh (Heap.get?_push_of_some _ hS)
        case hR =>
          intro s' hm hS'
          obtain ⟨h', g', d', tk', os'⟩ := s'
          have eg : g' = s.gens := hm.gens
          have ed : d' = s.drawn := hm.drawn
          have eo : os' = s.os := hm.os
          subst eg; subst ed; subst eo
          show wpAny _ _ _ _ _ _
          refine wpAny_pure ?_
          show wpAny _ _ (ret Value.none) _ _ _
          refine wpAny_pure ⟨rfl, h', tk', rfl, hS', fun b o e => ?_⟩
          have hb := Heap.lt_size e
          have hb1 : b ≠ s.heap.objs.size := Nat.ne_of_lt hb
          have hb2 : b ≠ (s.heap.push (newSet w)).objs.size := by
            rw [Heap.size_push]; exact Nat.ne_of_lt (Nat.lt_succ_of_lt hb)
          exact hm.heap b o (by simp only [List.mem_cons, List.mem_singleton, List.not_mem_nil, or_false, not_or]; exact ⟨hb1, hb2⟩) (Heap.get?_push_of_some _ (Heap.get?_push_of_some _ e))
      · cases r2 with
        | error e => exact hr2
        | ok fl2 =>
          cases fl2 with
          | ret r =>
            obtain ⟨rfl, h', tk, rfl, hS', hk'⟩ := hr2
            repeat (any_goals (first | assumption | wp_step))
            exact h _ _ hS' hk'
          | _ => exact hr2.elim
    | _ => exact hr.elim
def vkey : Value → Str
  | .str k _ => k
  | _ => Str.empty
theorem strs_vals : ∀ (l : List Value), (∀ v ∈ l, ∃ k tk, v = Value.str k tk) → StrsAre l (l.map vkey)
  | [], _ => .nil
  | v :: l, h => by
    obtain ⟨k, tk, rfl⟩ := h v List.mem_cons_self
    exact .cons k tk (strs_vals l fun u hu => h u (List.mem_cons_of_mem _ hu))
theorem sorted_tst {a : Addr} {ks : List Str} {Q : Value → Shared → Prop} (R : TSt w s.heap a ks) (hh : A.handled = none) (h64 : ks.length < 64)
    (hQ : ∀ s' p (out : Array Value) (c : Nat) (ys : List Str), (∀ b o, s.heap.get? b = some o → s'.heap.get? b = some o) → s'.gens = s.gens → s'.os = s.os → s.heap.objs.size ≤ p →
      s'.heap.get? p = some (seqObj "list" out c) → StrsAre out.toList ys → sortedS ys = true → ys.Perm ks → Q (.ref p) s') :
    wpAny (model P w) A (call (.builtin "sorted") [.ref a]) Q E s := by
  obtain ⟨o, es, ep, t, ho, hex, hd, g, pk, nd, hb, hf, hr, hl⟩ := R
  refine Calls.call_function_entry kind_sorted plain_sorted entry_sorted (args_sorted1 _) ?_
  unfold Builtin.«sorted»
  refine wpAny_bind (m := checkCount "sorted" 1 1 _) (wpAny_pure ?_)
  refine wpAny_bind (collect_set (A := A.in1) hh ⟨o, ho, hex.1, hd⟩ hf hb hr hl fun s1 vs k1 hz g1 o1 pm => ?_)
  have hel : es.toList.length = ks.length := by
    have z := pk.length_eq
    rw [List.length_map] at z
    exact z
  have hvl : vs.length = ks.length := by rw [pm.length_eq, List.length_map]; exact hel
  have hI : StrsAre vs (vs.map vkey) := strs_vals vs fun v hv => by
    obtain ⟨e, he, q⟩ := List.mem_map.mp (pm.mem_iff.mp hv)
    obtain ⟨k, tk, h1, _⟩ := g e he
    exact ⟨k, tk, by rw [← q]; exact h1⟩
  have pks : (vs.map vkey).Perm ks := by
    have q := pm.map vkey
    rw [List.map_map] at q
    exact q.trans pk
  refine wpAny_bind (wpAny_newList ?_ (by rw [hvl, sizeLine_eq]; omega))
  have hoL : (s1.heap.push (seqObj "list" vs.toArray 0)).get? s1.heap.objs.size = some (seqObj "list" vs.toArray 0) := Heap.get?_push_size _ rfl
  refine wpAny_bind (wpAny_holding (wpAny_call_entry slot_list_sort ⟨_, hoL, rfl⟩ entry_list_sort
    (list_sort_treeK strKind_oneLt hoL hI.keysOf (fun v1 v2 rest e => keyKind_strs (by rw [← e]; exact hI)) (by rw [hvl]; exact h64) fun st' hp hs => ?_) (args_list_sort _)))
  obtain ⟨ys, g3, g4, g5⟩ := sorted_out_str hI hp hs
  obtain ⟨c, hc⟩ := sortedHeap_at (vs := vs) (out := (arrOf st').map (·.2)) hoL
  refine ⟨_, rfl, wpAny_pure ⟨_, rfl, hQ _ s1.heap.objs.size ((arrOf st').map (·.2)) c ys (fun b u e => ?_) g1 o1 hz hc g3 g5 (g4.trans pks)⟩⟩
  have q := k1 b u e
  have hlt := Heap.lt_size q
  show (sortedHeap (s1.heap.push (seqObj "list" vs.toArray 0)) s1.heap.objs.size vs _).get? b = some u
  rw [sortedHeap_old (Nat.ne_of_lt hlt) (by rw [Heap.size_push]; exact Nat.lt_succ_of_lt hlt)]
  exact Heap.get?_push_of_some _ q
end
end PL
end
section
namespace PL
open PySem PySem.Spec PyProof.Rows L2
def insT (x : Str) : List Str → List Str
  | [] => [x]
  | y :: ys => if strLt y x then y :: insT x ys else x :: y :: ys
def srtT : List Str → List Str
  | [] => []
  | x :: xs => insT x (srtT xs)
theorem insT_perm (x : Str) : ∀ ys, (insT x ys).Perm (x :: ys)
  | [] => .refl _
  | y :: ys => by
    unfold insT
    split
    · exact ((insT_perm x ys).cons y).trans (List.Perm.swap ..)
    · exact .refl _
theorem srtT_perm : ∀ xs, (srtT xs).Perm xs
  | [] => .refl _
  | x :: xs => (insT_perm x _).trans ((srtT_perm xs).cons x)
theorem strLt_irrefl (a : Str) : strLt a a = false := by
  simp [strLt]
theorem strLt_trans {a b c : Str} (h1 : strLt a b = true) (h2 : strLt b c = true) : strLt a c = true := by
  simp only [strLt, decide_eq_true_eq] at h1 h2 ⊢
  exact List.lt_trans h1 h2
theorem strLt_tri {a b : Str} (h1 : strLt a b = false) (h2 : strLt b a = false) : a = b := by
  simp only [strLt, decide_eq_false_iff_not] at h1 h2
  have e : a.cps.toList = b.cps.toList := List.le_antisymm (List.not_lt.mp h2) (List.not_lt.mp h1)
  cases a
  cases b
  congr 1
  exact Array.toList_inj.mp e
theorem ltS_eq (a b : Str) : ltCps a.cps.toList b.cps.toList = strLt a b := PyProof.Rows.ltCps_eq _ _
def Srt (ys : List Str) : Prop := ys.Pairwise fun a b => strLt b a = false
theorem rising_srt : ∀ (ys : List Str) (p : Str), risingS p ys = true → (p :: ys).Pairwise fun a b => strLt b a = false
  | [], p, _ => by simp
  | x :: r, p, h => by
    have h2 : (!ltCps x.cps.toList p.cps.toList && risingS x r) = true := h
    rw [Bool.and_eq_true] at h2
    have h3 : strLt x p = false := by
      have := h2.1
      rw [ltS_eq] at this
      simpa using this
    have ih := rising_srt r x h2.2
    refine List.pairwise_cons.mpr ⟨fun y hy => ?_, ih⟩
    rcases List.mem_cons.mp hy with rfl | hy
    · exact h3
    · have h4 := (List.pairwise_cons.mp ih).1 y hy
      cases e : strLt y p with
      | false => rfl
      | true =>
        cases e2 : strLt p x with
        | true => rw [strLt_trans e e2] at h4; cases h4
        | false =>
          have := strLt_tri e2 h3
          rw [this] at e
          rw [e] at h4
          cases h4
theorem srt_of {ys : List Str} (h : sortedS ys = true) : Srt ys := by
  cases ys with
  | nil => exact List.Pairwise.nil
  | cons x r => exact rising_srt r x h
theorem insT_srt (x : Str) : ∀ ys, Srt ys → Srt (insT x ys)
  | [], _ => by simp [insT, Srt]
  | y :: ys, h => by
    obtain ⟨h1, h2⟩ := List.pairwise_cons.mp h
    unfold insT
    split
    · rename_i hl
      refine List.pairwise_cons.mpr ⟨fun z hz => ?_, insT_srt x ys h2⟩
      rcases List.mem_cons.mp ((insT_perm x ys).mem_iff.mp hz) with rfl | hz
      · cases e : strLt z y with
        | false => rfl
        | true => have := strLt_trans e hl; rw [strLt_irrefl] at this; cases this
      · exact h1 z hz
    · rename_i hl
      have hl' : strLt y x = false := by simpa using hl
      refine List.pairwise_cons.mpr ⟨fun z hz => ?_, h⟩
      rcases List.mem_cons.mp hz with rfl | hz
      · exact hl'
      · have h4 := h1 z hz
        cases e : strLt z x with
        | false => rfl
        | true =>
          cases e2 : strLt x y with
          | true => rw [strLt_trans e e2] at h4; cases h4
          | false =>
            have := strLt_tri e2 hl'
            rw [this] at e
            rw [e] at h4
            cases h4
theorem srtT_srt : ∀ xs, Srt (srtT xs)
  | [] => List.Pairwise.nil
  | x :: xs => insT_srt x _ (srtT_srt xs)
theorem srt_uniq : ∀ {xs ys : List Str}, xs.Perm ys → Srt xs → Srt ys → xs = ys
  | [], ys, p, _, _ => (List.nil_perm.mp p).symm ▸ rfl
  | x :: xs, [], p, _, _ => absurd p.length_eq (by simp)
  | x :: xs, y :: ys, p, hx, hy => by
    obtain ⟨a1, a2⟩ := List.pairwise_cons.mp hx
    obtain ⟨b1, b2⟩ := List.pairwise_cons.mp hy
    have e : x = y := by
      have m1 : x ∈ y :: ys := p.mem_iff.mp List.mem_cons_self
      have m2 : y ∈ x :: xs := p.mem_iff.mpr List.mem_cons_self
      rcases List.mem_cons.mp m1 with h | h
      · exact h
      · rcases List.mem_cons.mp m2 with h' | h'
        · exact h'.symm
        · exact strLt_tri (b1 x h) (a1 y h')
    subst e
    rw [srt_uniq ((List.perm_cons x).mp p) a2 b2]
theorem sorted_is {xs ys : List Str} (p : ys.Perm xs) (h : sortedS ys = true) : ys = srtT xs := srt_uniq (p.trans (srtT_perm xs).symm) (srt_of h) (srtT_srt xs)
def strsOf : List D → Option (List Str)
  | [] => some []
  | .str b :: ds => (strsOf ds).map (b :: ·)
  | _ => none
theorem strsOf_ok {K : PySem.W.Frag} {G : Hp} : ∀ {v : List V} {d : List D} {bs : List Str}, strsOf d = some bs → RpA K G v d → v = bs.map V.str
  | _, [], bs, h, .nil => by cases h; rfl
  | _, d :: ds, bs, h, .cons h1 r => by
    cases d with
    | str b =>
      have h2 : (strsOf ds).map (b :: ·) = some bs := h
      cases e : strsOf ds with
      | none => rw [e] at h2; cases h2
      | some cs =>
        rw [e] at h2
        cases h2
        cases h1
        rw [strsOf_ok e r]
        rfl
    | _ => cases h
theorem rpa_strs {K : PySem.W.Frag} {G : Hp} : ∀ (bs : List Str), RpA K G (bs.map V.str) (bs.map D.str)
  | [] => .nil
  | b :: bs => .cons (.str b) (rpa_strs bs)
def tSortSet (K : PySem.W.Frag) (ta : TE) : TE := fun s H Q => ta s H fun x H1 => ∃ (l : Addr) (xs : List Str), x = .ref l ∧ SqL K H1 l (xs.map V.str) ∧ xs.length < 64 ∧ ∀ p, H1 p = none → Q (.ref p) (upd H1 p (.lst ((srtT (seenT [] xs)).map V.str)))
theorem pe_sortSet {X : Cx} {a : Expr} {ta : TE} {p p2 q pos : Pos} (hc : X.calm = true) (hg : Gl X "sorted") (hm : X.mg "sorted" = none) (hg2 : Gl X "set") (hm2 : X.mg "set" = none) (ha : PE X a ta)
    (na : starEach [a] X.env = (false, eval a X.env) :: starEach [] X.env := by rfl) : PE X (.Call (.Name "sorted" p) [.Call (.Name "set" p2) [a] [] q] [] pos) (tSortSet X.K ta) := by
  refine ⟨fun pins s σ H Q I h => ?_⟩
  refine Call_ (ld_blt I hg hm boot_sorted ?_)
  refine PyProof.Rows.callWith_builtin1 (PyProof.Rows.args_cons ?_ rfl) rfl rfl
  refine Call_ (ld_blt I hg2 hm2 boot_set ?_)
  refine PyProof.Rows.callWith_type1 (PyProof.Rows.args_cons (thn (ha.run pins s σ H _ I h) fun v s1 ⟨x, H1, I1, r1, q1⟩ => PyProof.Rows.args_nil ?_) na) na rfl
  obtain ⟨l, xs, rfl, hq, h64, q1⟩ := q1
  cases r1
  obtain ⟨its, r, pl, hz⟩ := I1.list hq
  refine call_setT (I1.ok.hd hc) pl.isList (by simpa using strsAre_of r) (by omega) fun h' tk hS hk => ?_
  refine PyProof.Rows.args_nil ?_
  have I2 : L2.Inv X pins σ H1 { s1 with heap := h', toks := tk } := I1.kept (t' := tk) hk
  have hl := seenT_len xs []
  have c0 : ([] : List Str).length = 0 := rfl
  have hS2 : TSt X.w ({ s1 with heap := h', toks := tk } : Shared).heap s1.heap.objs.size (seenT [] xs) := hS
  generalize ({ s1 with heap := h', toks := tk } : Shared) = s2 at I2 hS2 ⊢
  refine sorted_tst hS2 (I2.ok.hd hc) (by omega) fun s' p out c ys k g o hp hg hi hs pm => ?_
  have e := sorted_is pm hs
  subst e
  have hlen : ((srtT (seenT [] xs)).map V.str).length ≤ sizeLine := by rw [List.length_map, pm.length_eq, sizeLine_eq]; omega
  have hn : H1 p = none := I2.hok.fresh hp
  have J : L2.Inv X pins σ (upd H1 p (.lst ((srtT (seenT [] xs)).map V.str))) { s2 with heap := s'.heap, gens := s'.gens, drawn := s'.drawn, toks := s'.toks } :=
    I2.call (ch := []) (Un.laid k hp hn) (I2.hok.laid k hp ⟨hlen, out.toList, c, vals_of_strs hi, hg⟩) (by rw [g]; exact I2.bare) (fun _ z => nomatch z)
  have e : s' = { s2 with heap := s'.heap, gens := s'.gens, drawn := s'.drawn, toks := s'.toks } := by
    cases s'
    cases s2
    cases o
    rfl
  rw [e]
  exact ⟨.ref p, _, J, rfl, q1 p hn⟩
def fSortSet (fa : Rho → R D) (r : Rho) : R (List D) := (fa r).bnd fun d => match viewL r d with
  | some ds => (match strsOf ds with
    | some xs => if decide (xs.length < 64) then .ok ((srtT (seenT [] xs)).map .str) else .stuck
    | none => .stuck)
  | none => .stuck
theorem en_sortSet {X : Cx} {E : WX} {a : Expr} {fa : Rho → R D} {p p2 q pos : Pos} (hc : X.calm = true) (hg : Gl X "sorted") (hm : X.mg "sorted" = none) (hg2 : Gl X "set") (hm2 : X.mg "set" = none) (ha : EV X E a fa)
    (na : starEach [a] X.env = (false, eval a X.env) :: starEach [] X.env := by rfl) : EN X E (.Call (.Name "sorted" p) [.Call (.Name "set" p2) [a] [] q] [] pos) (fSortSet fa) :=
  pe_imp (pe_sortSet hc hg hm hg2 hm2 ha na) fun s H Q ⟨T, R, h⟩ => ⟨T, R, KE.bnd h fun d G1 H1 _ eg eh R1 h1 v rv => by
    cases e : viewL T.r d with
    | none => rw [e] at h1; exact h1.elim
    | some es =>
      rw [e] at h1
      simp only at h1
      cases e2 : strsOf es with
      | none => rw [e2] at h1; exact h1.elim
      | some zs =>
        rw [e2] at h1
        simp only at h1
        cases e3 : decide (zs.length < 64) with
        | false => rw [e3] at h1; exact h1.elim
        | true =>
          rw [e3] at h1
          obtain ⟨l, ys, rfl, hq, hr⟩ := viewL_ok (T := { T with G := G1 }) R1 rv e
          have ez := strsOf_ok e2 hr
          subst ez
          refine ⟨l, zs, rfl, SqL.of hq, of_decide_eq_true e3, fun p hp => ?_⟩
          exact KE.lay (show KE X.K X.mg E { T with G := G1 } s H1 _ (.ok ((srtT (seenT [] zs)).map D.str)) from h1) R1 hp p _ (eh.free hp) upd_same (R1.gf _ hp) (rpa_strs _)⟩
end PL
end
section
namespace PL
open PySem PySem.Spec PyProof.Rows L2
def keyD : D → Option Key
  | .int i => some (.inl i)
  | .str x => some (.inr x)
  | _ => none
theorem keyD_ok {K : PySem.W.Frag} {G : Hp} {s : St} {v : V} {d : D} {k : Key} (rv : RpE K G s v d) (h : keyD d = some k) : v = kV k := by
  cases d with
  | int i =>
    cases h
    cases (show Rp K G v (.int i) from rv)
    rfl
  | str x =>
    cases h
    cases (show Rp K G v (.str x) from rv)
    rfl
  | _ => cases h
def valD (ks : List (Key × D)) (k : Key) : Option D := (ks.find? fun kv => decide (kv.1 = k)).map (·.2)
def putD (ks : List (Key × D)) (k : Key) (d : D) : List (Key × D) := if (ks.any fun kv => decide (kv.1 = k)) then ks.map fun kv => if kv.1 = k then (kv.1, d) else kv else ks ++ [(k, d)]
def keyOfD : Key → D
  | .inl i => .int i
  | .inr x => .str x
theorem RpK.len {K : PySem.W.Frag} {G : Hp} : ∀ {v : List (Key × V)} {d : List (Key × D)}, RpK K G v d → v.length = d.length
  | _, _, .nil => rfl
  | _, _, .cons _ r => by rw [List.length_cons, List.length_cons, r.len]
theorem RpK.val {K : PySem.W.Frag} {G : Hp} {k : Key} : ∀ {v : List (Key × V)} {d : List (Key × D)}, RpK K G v d → (valD d k = none ∧ valV v k = none) ∨ ∃ x y, valD d k = some x ∧ valV v k = some y ∧ Rp K G y x
  | _, _, .nil => .inl ⟨rfl, rfl⟩
  | _, _, .cons (k := k0) (v := y) (d := x) h r => by
    by_cases e : k0 = k
    · exact .inr ⟨x, y, by simp [valD, e], by simp [valV, e], h⟩
    · have ih := r.val (k := k)
      simp only [valD, valV, List.find?_cons, e, decide_false] at ih ⊢
      exact ih
theorem RpK.any {K : PySem.W.Frag} {G : Hp} {k : Key} : ∀ {v : List (Key × V)} {d : List (Key × D)}, RpK K G v d → (v.any fun kv => decide (kv.1 = k)) = d.any fun kv => decide (kv.1 = k)
  | _, _, .nil => rfl
  | _, _, .cons h r => by rw [List.any_cons, List.any_cons, r.any]
theorem RpK.repl {K : PySem.W.Frag} {G : Hp} {k : Key} {y : V} {x : D} (hx : Rp K G y x) : ∀ {v : List (Key × V)} {d : List (Key × D)}, RpK K G v d → RpK K G (v.map fun kv => if kv.1 = k then (kv.1, y) else kv) (d.map fun kv => if kv.1 = k then (kv.1, x) else kv)
  | _, _, .nil => .nil
  | _, _, .cons (k := k0) h r => by
    by_cases e : k0 = k
    · simp only [List.map_cons, e, if_true]
      exact .cons hx (r.repl hx)
    · simp only [List.map_cons, e, if_false]
      exact .cons h (r.repl hx)
theorem RpK.snoc {K : PySem.W.Frag} {G : Hp} {k : Key} {y : V} {x : D} (hx : Rp K G y x) : ∀ {v : List (Key × V)} {d : List (Key × D)}, RpK K G v d → RpK K G (v ++ [(k, y)]) (d ++ [(k, x)])
  | _, _, .nil => .cons hx .nil
  | _, _, .cons h r => .cons h (r.snoc hx)
theorem RpK.put {K : PySem.W.Frag} {G : Hp} {k : Key} {y : V} {x : D} (hx : Rp K G y x) {v : List (Key × V)} {d : List (Key × D)} (r : RpK K G v d) : RpK K G (putK v k y) (putD d k x) := by
  unfold putK putD
  rw [r.any]
  split
  · exact r.repl hx
  · exact r.snoc hx
theorem RpK.keys {K : PySem.W.Frag} {G : Hp} : ∀ {v : List (Key × V)} {d : List (Key × D)}, RpK K G v d → RpA K G (v.map fun kv => kV kv.1) (d.map fun kv => keyOfD kv.1)
  | _, _, .nil => .nil
  | _, _, .cons (k := k0) h r => .cons (by cases k0 with
    | inl i => exact .int i
    | inr x => exact .str x) r.keys
theorem Rel.setOd {K : PySem.W.Frag} {G0 H0 G H : Hp} {r : Rho} {s : St} {i : Nat} {p : Addr} {kvs : List (Key × V)} {ks : List (Key × D)} (R : Rel K G0 H0 r s G H) (hp : H p = some (.dK kvs)) (hg : G p = none) (h0 : H0 p = none) (hn : ∀ j, j ≠ i → ¬ OwnAt r s j p) (hr : RpK K G kvs ks) (hs : i < s.length) : Rel K G0 H0 (r.set i (.od ks)) (s.set i (some (.ref p))) G H where
  gg := R.gg
  hh := R.hh
  gh := R.gh
  gf := R.gf
  nw := R.nw
  sl := fun j x hx => by
    have hi : i < r.length := Nat.lt_of_lt_of_le hs R.ln.lo
    rw [join_set hs]
    by_cases e : j = i
    · subst e
      rw [List.getElem?_set_self hi] at hx
      cases hx
      rw [if_pos rfl]
      exact ⟨p, kvs, rfl, hp, hg, h0, hr⟩
    · rw [List.getElem?_set_ne (Ne.symm e)] at hx
      rw [if_neg e]
      exact R.sl j x hx
  ds := fun j k a h1 h2 => by
    have key : ∀ j, j ≠ i → OwnAt (r.set i (.od ks)) (s.set i (some (.ref p))) j a → OwnAt r s j a := fun j e h => by
      obtain ⟨q1, q2⟩ := h
      rw [List.getElem?_set_ne (Ne.symm e)] at q1 q2
      exact ⟨q1, q2⟩
    have at_i : ∀ j, j = i → OwnAt (r.set i (.od ks)) (s.set i (some (.ref p))) j a → a = p := fun j e h => by
      obtain ⟨q1, q2⟩ := h
      subst e
      rw [List.getElem?_set_self hs] at q2
      cases q2
      rfl
    by_cases e1 : j = i
    · by_cases e2 : k = i
      · rw [e1, e2]
      · have ea := at_i j e1 h1
        subst ea
        exact absurd (key k e2 h2) (hn k e2)
    · by_cases e2 : k = i
      · have ea := at_i k e2 h2
        subst ea
        exact absurd (key j e1 h1) (hn j e1)
      · exact R.ds j k a (key j e1 h1) (key k e2 h2)
  ln := R.ln.set hs _ _
theorem own_atD {K : PySem.W.Frag} {T : Stt} {s : St} {H : Hp} {i : Nat} {ks : List (Key × D)} (R : Rl K T s H) (h : T.r[i]? = some (.od ks)) : ∃ a kvs, OwnAt T.r s i a ∧ s[i]? = some (some (.ref a)) ∧ H a = some (.dK kvs) ∧ RpK K T.G kvs ks := by
  obtain ⟨a, xs, e1, e2, e3, e4, e5⟩ := R.sl i _ h
  have e3 : s[i]? = some (some (.ref a)) := by
    cases e4 : s[i]? with
    | none => rw [e4] at e1; cases e1
    | some o => rw [e4] at e1; exact congrArg some e1
  exact ⟨a, xs, ⟨by rw [h]; trivial, e3⟩, e3, e2, e5⟩
section
variable {X : Cx} {E : WX} {pos p : Pos}
def fDNew (i : Nat) (r : Rho) : R Fl := if decide (i < r.length) then .ok (.nx (r.set i (.od []))) else .stuck
def viewK (r : Rho) : D → Option (List (Key × D))
  | .dic ks => some ks
  | .own i => match r[i]? with
    | some (.od ks) => some ks
    | _ => none
  | _ => none
theorem dgetR {H : Hp} {a : Addr} {kvs : List (Key × V)} {k : Key} (e : Rd H a (.dK kvs)) : DGet H a (kV k) (valV kvs k) := .inl ⟨kvs, k, e, rfl, rfl⟩
theorem viewK_ok {K : PySem.W.Frag} {T : Stt} {s : St} {H : Hp} {v : V} {d : D} {ks : List (Key × D)} (R : Rl K T s H) (rv : RpE K T.G s v d) (h : viewK T.r d = some ks) : ∃ a kvs, v = .ref a ∧ Rd H a (.dK kvs) ∧ RpK K T.G kvs ks := by
  cases d with
  | dic es =>
    cases h
    cases (show Rp K T.G v (.dic ks) from rv) with
    | dic h1 h2 => exact ⟨_, _, rfl, .inr ⟨_, R.at h1 rfl⟩, h2⟩
  | own i =>
    simp only [viewK] at h
    cases e : T.r[i]? with
    | none => rw [e] at h; cases h
    | some x =>
      rw [e] at h
      cases x with
      | od es =>
        cases h
        obtain ⟨a, kvs, _, ea, eb, er⟩ := own_atD R e
        have rv2 : s[i]? = some (some v) := rv
        rw [ea] at rv2
        cases rv2
        exact ⟨a, kvs, rfl, .inl eb, er⟩
      | _ => cases h
  | _ => cases h
def fDGet (fd fk : Rho → R D) (r : Rho) : R D := (fd r).bnd fun x => (fk r).bnd fun k => match viewK r x, keyD k with
  | some ks, some k => (match valD ks k with
    | some d => .ok d
    | none => .stuck)
  | _, _ => .stuck
theorem ev_dget {o i : Expr} {fd fk : Rho → R D} (hu : X.A.units + 1 < cLine) (ho : EV X E o fd) (hi : EV X E i fk) (hs : NoSl i := by intro _ _; rfl) : EV X E (.Subscript o i pos) (fDGet fd fk) :=
  pe_imp (pe_dget hu ho hi hs) fun s H Q ⟨T, R, h⟩ => ⟨T, R, KE.bnd h fun d G1 H1 _ eg eh R1 h1 v rv =>
    ⟨{ T with G := G1 }, R1, KE.bnd (show KE X.K X.mg E { T with G := G1 } s H1 _ ((fk T.r).bnd fun k => match viewK T.r d, keyD k with
      | some ks, some k => (match valD ks k with
        | some d => .ok d
        | none => .stuck)
      | _, _ => .stuck) from h1) fun dk G2 H2 _ eg2 eh2 R2 h2 vk rk => by
      cases e1 : viewK T.r d with
      | none => rw [e1] at h2; exact h2.elim
      | some ks =>
        cases e2 : keyD dk with
        | none => rw [e1, e2] at h2; exact h2.elim
        | some kk =>
          rw [e1, e2] at h2
          simp only at h2
          obtain ⟨a, kvs, rfl, ha, hr⟩ := viewK_ok (T := { T with G := G2 }) R2 (rv.mono eg2) e1
          have ek := keyD_ok rk e2
          subst ek
          rcases hr.val (k := kk) with ⟨z, _⟩ | ⟨x, y, z1, z2, z3⟩
          · rw [z] at h2; exact h2.elim
          · rw [z1] at h2
            exact ⟨a, y, rfl, by rw [← z2]; exact dgetR ha, fin (T := { T with G := G2 }) x h2 R2 z3⟩⟩⟩
end
def fDV (i : Nat) (r : Rho) : R D := match r[i]? with
  | some (.od _) => .ok (.own i)
  | some (.im (.dic ks)) => .ok (.dic ks)
  | _ => .stuck
theorem ev_dvar {X : Cx} {E : WX} {e : Expr} {i : Nat} (h : EV X E e (fVar i)) : EV X E e (fDV i) :=
  pe_imp h fun s H Q ⟨T, R, q⟩ => ⟨T, R, by
    unfold fDV at q
    unfold fVar
    cases e1 : T.r[i]? with
    | none => rw [e1] at q; exact q.elim
    | some x =>
      rw [e1] at q
      cases x with
      | od ks => exact q
      | im d =>
        cases d with
        | dic ks => exact q
        | _ => exact q.elim
      | _ => exact q.elim⟩
theorem units1 {k : Nat} {A : Around} (r : Room k A) : A.units + 1 < cLine := by
  have := r.units
  omega
end PL
end
section
namespace PL
open PySem PySem.Spec PyProof.Rows L2
section
variable {X : Cx} {E : WX} {es : List Expr} {t : TA} {pos : Pos} {a : Expr} {fs : Rho → R (List D)} {fa : Rho → R D}
def wkD : D → D
  | .tpn ds => .tup ds
  | d => d
def fWk (f : Rho → R D) (r : Rho) : R D := (f r).bnd fun d => .ok (wkD d)
theorem wk_ok {K : PySem.W.Frag} {G : Hp} {s : St} {v : V} {d : D} (h : RpE K G s v d) : RpE K G s v (wkD d) := by
  cases d with
  | tpn ds =>
    cases (show Rp K G v (.tpn ds) from h) with
    | tpn h1 h2 h3 => exact Rp.tup (.inl (.inr ⟨_, h1⟩)) h3
  | _ => exact h
theorem ev_wk (h : EV X E a fa) : EV X E a (fWk fa) :=
  pe_imp h fun s H Q ⟨T, R, h⟩ => ⟨T, R, KE.bnd h fun d G1 H1 _ eg eh R1 h1 v rv => KE.here (show KE X.K X.mg E { T with G := G1 } s H1 _ (.ok (wkD d)) from h1) R1 v (wk_ok rv)⟩
end
section
variable {X : Cx}
end
theorem tuple_keys_none : typeLookup (.type "tuple") "keys" = pure none := am_miss_of_fast (by first | decide +kernel | rfl)
section
variable {prog : Program} {w : World} {A : Around} {E : Value → Shared → Prop}
theorem miss_tuple {s : Shared} {a : Addr} {o : Obj} {xs : Array Value} {k : Nat} {Q : Option Value → Shared → Prop} (hx : s.heap.get? a = some o) (hc : o.cls = .type "tuple") (hdat : o.data = .seq xs k) (hd : o.dict = none) (hA : A.handled = none)
    (h : ∀ h' tk, (∀ b ob, s.heap.get? b = some ob → h'.get? b = some ob) → Q none { s with heap := h', toks := tk }) : wpAny (model prog w) A (getAttr? (.ref a) "keys") Q E s := by
  obtain ⟨c, dct, dat, sl⟩ := o
  simp only at hc hdat hd
  subst hc hdat hd
  obtain ⟨hp, g, d, tk, os⟩ := s
  have hT : ∀ tk', (⟨hp, g, d, tk', os⟩ : Shared).TypeIs (.ref a) "tuple" := fun _ => ⟨_, hx, rfl⟩
  have hmiss := tuple_keys_none
  have hname : (["__module__", "__name__", "__qualname__", "__doc__", "__annotations__"] : List Str).contains "keys" = false := by decide +kernel
  have hsz : ("keys" : Str).length + 100 ≤ sizeLine := by first | size_fits | decide +kernel
  have f1 := sub_AttributeError
  have f3 := PySem.F.slot_tuple_getattribute.lookup
  have f4 := PySem.F.slot_tuple_getattribute.bind (.ref a)
  have f5 := am_tuple_getattr_none
  unfold getAttr? getAttrBy? getAttrBy
  repeat (any_goals (first | assumption | exact hT _ | ((with_reducible show wpAny _ _ (call (Value.builtin "tuple.__getattribute__") _ _) _ _ _); refine call_meets PySem.F.slot_tuple_getattribute (hT _) am_entry_tuple_getattribute (PySem.F.args_tuple_getattribute_2 _ _) (meets_getattribute_miss_tuple a xs k sl "keys" _ hmiss hname hsz) ⟨hx, hA, fun h' tk' e hx' => ?_⟩) | wp_step))
  obtain ⟨t', u', he⟩ := hx'.there
  show wpAny _ _ (getattributeRaised _ _ _ _ _ _ _) _ _ _
  unfold getattributeRaised
  repeat (any_goals (first | assumption | wp_step))
  all_goals first | exact h _ _ hx'.keeps | (dsimp only; repeat (any_goals (first | assumption | exact h _ _ hx'.keeps | wp_step)))
theorem upd_loopT {R : Result → Shared → Prop} {S I l : Addr} {items : Array Value} {res : Value} (hh : A.handled = none) (hlI : l ≠ I) (hSI : S ≠ I) (hSl : S ≠ l) :
    ∀ (rest : List (Key × Value)) (i : Nat) (acc : List (Key × Value)) (ix : Int) (t : Tok) (s : Shared), items.size = i + rest.length → acc.length + rest.length ≤ sizeLine →
      (∀ (j : Nat) (q : Key × Value), rest[j]? = some q → ∃ (b : Addr) (u : Value), items[i + j]? = some (.ref b) ∧ b ≠ S ∧ b ≠ I ∧ IsTup s.heap b #[u, q.2] ∧ keyIs q.1 u = true) →
      s.heap.IsTupleIter I l i → s.heap.IsTuple l items → s.heap.DictOf (mixKind prog w) S acc →
      (∀ h' tk, h'.DictOf (mixKind prog w) S (merged acc rest) → (∀ b o, b ≠ S → b ≠ I → s.heap.get? b = some o → h'.get? b = some o) → R (.ok (.ret res)) { s with heap := h', toks := tk }) →
      codeAny (model prog w) A (.builtin "dict.update.loop" ⟨[.ref S, .ref I, .int ix t, res], []⟩) R s
  | [], i, acc, ix, t, s, hsz, hln, ht, hit, hl, hm, hR => by
    refine codeAny_builtin ud_entry ?_
    rw [Around.under_plainId ud_plain _]
    show wpAny _ A.in1 (pyNext (.ref I) >>= _) _ _ s
    refine wpAny_bind (wpAny_pyNext_tuple_end (A := A.in1) hh hit hl (by first | exact Array.getElem?_eq_none (Nat.le_of_eq hsz) | (simp at hsz; simp; omega)) fun h' he => ?_)
    show wpAny _ A.in1 (Builtin.Dict.addKeywords S [] >>= _) _ _ _
    refine wpAny_bind (wpAny_pure (wpAny_pure ?_))
    exact hR h' s.toks (hm.extBut he hSI) fun b o _ hb e => he b o hb e
  | q :: rest, i, acc, ix, t, s, hsz, hln, ht, hit, hl, hm, hR => by
    obtain ⟨b, u, hb, hbS, hbI, htup, hk⟩ := ht 0 q rfl
    rw [List.length_cons] at hsz hln
    refine codeAny_builtin ud_entry ?_
    rw [Around.under_plainId ud_plain _]
    show wpAny _ A.in1 (pyNext (.ref I) >>= _) _ _ s
    refine wpAny_bind (wpAny_pyNext_tuple_item (x := .ref b) hit hl (by simpa using hb) fun h1 hit1 hs1 => ?_)
    have ht1 : IsTup h1 b #[u, q.2] := htup.extBut hs1.extBut hbI
    have hl1 : h1.IsTuple l items := hl.extBut hs1.extBut hlI
    have hm1 : h1.DictOf (mixKind prog w) S acc := hm.extBut hs1.extBut hSI
    obtain ⟨o, ho, hc, n, hd⟩ := id ht1
    show wpAny _ A.in1 (holding [Value.ref b] _ >>= _) _ _ _
    refine wpAny_bind (wpAny_holding ?_)
    refine wpAny_bind (wpAny_tryCatch ?_)
    unfold Builtin.Dict.pairItems
    refine wpAny_bind (wpAny_typeOf (T := "tuple") ⟨o, ho, hc⟩ ?_)
    rw [if_pos (by first | decide | rfl | simp)]
    refine wpAny_bind (wpAny_seqItems ho hd (wpAny_pure ?_))
    show wpAny _ A.in1 (holding [u, q.2] (dictSet S u q.2)) _ _ _
    refine wpAny_holding (wpAny_dictSet_pairs (knd := mixKind prog w) (k := q.1) hk hm1 (fun h2 hm2 hs2 => ?_) (by omega))
    refine wpAny_pure ⟨plainId_quiet ud_plain _, upd_loopT (items := items) hh hlI hSI hSl rest (i + 1) (stored acc q.1 q.2) (ix + 1) 0 _ (show items.size = i + 1 + rest.length by omega) ?_ (fun j q' e => ?_) ?_ ?_ hm2 fun h' tk hd' k => ?_⟩
    · have z := stored_length_le acc q.1 q.2
      omega
    · obtain ⟨b', u', hb', hbS', hbI', htup', hk'⟩ := ht (j + 1) q' (by simpa using e)
      refine ⟨b', u', ?_, hbS', hbI', (htup'.extBut hs1.extBut hbI').extBut hs2.extBut hbS', hk'⟩
      rw [show i + 1 + j = i + (j + 1) by omega]
      exact hb'
    · exact hit1.extBut hs2.extBut (Ne.symm hSI)
    · exact hl1.extBut hs2.extBut (Ne.symm hSl)
    · exact hR h' tk hd' fun c oc h3 h4 e => k c oc h3 h4 (hs2.extBut c oc h3 (hs1.extBut c oc h4 e))
theorem call_dict_tup {s : Shared} {l : Addr} {ol : Obj} {items : Array Value} {n : Nat} {prs : List (Key × Value)} {Q : Value → Shared → Prop} (hh : A.handled = none) (hl : s.heap.get? l = some ol) (hc : ol.cls = .type "tuple") (hd : ol.dict = none)
    (hdat : ol.data = .seq items n) (hsz : items.size = prs.length) (hln : prs.length ≤ sizeLine)
    (ht : ∀ (j : Nat) (q : Key × Value), prs[j]? = some q → ∃ (b : Addr) (u : Value), items[j]? = some (.ref b) ∧ IsTup s.heap b #[u, q.2] ∧ keyIs q.1 u = true)
    (h : ∀ h' tk, h'.DictOf (mixKind prog w) s.heap.objs.size (merged [] prs) → (∀ b o, s.heap.get? b = some o → h'.get? b = some o) → Q (.ref s.heap.objs.size) { s with heap := h', toks := tk }) :
    wpAny (model prog w) A (call (.type "dict") [.ref l]) Q E s := by
  refine callType_codes (Q₁ := fun obj s₁ => obj = .ref s.heap.objs.size ∧ s₁ = { s with heap := s.heap.push { cls := .type "dict", data := .dict #[] } }) PySem.F.kt_called_dict (PySem.F.kt_typeCall_dict_1 _) PySem.F.entry_dict_init (kt_code_dict_new _ ⟨rfl, rfl⟩) ?_
  rintro obj s₁ ⟨rfl, rfl⟩
  have hnew : (s.heap.push { cls := .type "dict", data := .dict #[] }).DictOf (mixKind prog w) s.heap.objs.size [] := Heap.DictOf.new s.heap
  have k0 : ∀ b o, s.heap.get? b = some o → (s.heap.push { cls := .type "dict", data := .dict #[] }).get? b = some o := fun b o e => Heap.get?_push_of_some _ e
  refine ⟨hnew.typeIs, PySem.F.args_dict_init_2 _ _, ?_⟩
  unfold Builtin.«dict.__init__»
  refine wpAny_bind ?_
  unfold Builtin.Dict.selfAndRest
  refine wpAny_bind (wpAny_notOrdered_dict hnew.typeIs ?_)
  show wpAny _ _ (pure (s.heap.objs.size, [Value.ref l])) _ _ _
  refine wpAny_pure ?_
  show wpAny _ _ (Builtin.Dict.updateFrom "dict.__init__" s.heap.objs.size (.ref l) [] .none) _ _ _
  unfold Builtin.Dict.updateFrom
  refine wpAny_bind (wpAny_typeOf (T := "tuple") ⟨ol, k0 _ _ hl, hc⟩ ?_)
  rw [if_pos (by first | decide | rfl | simp)]
  refine wpAny_bind (miss_tuple (k0 _ _ hl) hc hdat hd hh fun h1 tk1 hk1 => ?_)
  rw [if_pos (show (none : Option Value).isNone = true from rfl)]
  refine wpAny_bind (wpAny_rule ?_)
  have hl1 : h1.IsTuple l items := ⟨ol, hk1 _ _ (k0 _ _ hl), hc, n, hdat⟩
  have hS1 : s.heap.objs.size < h1.objs.size := by
    have e : (s.heap.push { cls := .type "dict", data := .dict #[] }).get? s.heap.objs.size = some { cls := .type "dict", data := .dict #[] } := Heap.get?_push_size _ rfl
    exact Heap.lt_size (hk1 _ _ e)
  refine wpAny_bind (wpAny_pyIter_tuple hl1 ?_)
  have k2 : ∀ b o, h1.get? b = some o → (h1.push { cls := .type "tuple_iterator", data := .fields #[.ref l, .int 0 0] }).get? b = some o := fun b o e => Heap.get?_push_of_some _ e
  have hlt : l < s.heap.objs.size := Heap.lt_size hl
  have key := upd_loopT (prog := prog) (w := w) (A := A.in1) (R := wants (fun r s₂ => r = .none ∧ Q (.ref s.heap.objs.size) s₂) E) (S := s.heap.objs.size) (I := h1.objs.size) (l := l) (items := items) (res := Value.none) hh
    (Nat.ne_of_lt (Nat.lt_trans hlt hS1)) (Nat.ne_of_lt hS1) (Nat.ne_of_gt hlt) prs 0 [] 0 0
    { s with heap := h1.push { cls := .type "tuple_iterator", data := .fields #[.ref l, .int 0 0] }, toks := tk1 } (by rw [hsz, Nat.zero_add]) (by rw [List.length_nil, Nat.zero_add]; exact hln)
    (fun j q e => by
      obtain ⟨b, u, e1, e2, e3⟩ := ht j q e
      have hb : b < s.heap.objs.size := e2.lt
      exact ⟨b, u, by rw [Nat.zero_add]; exact e1, Nat.ne_of_lt hb, Nat.ne_of_lt (Nat.lt_trans hb hS1), e2.keeps fun c o z => k2 _ _ (hk1 _ _ (k0 _ _ z)), e3⟩)
    ⟨_, Heap.get?_push_size _ rfl, rfl, rfl⟩ (hl1.push _) ((hnew.at fun o e => hk1 _ _ e).at fun o e => k2 _ _ e)
    (fun h' tk hd' k => ⟨rfl, h h' tk hd' fun b o e => k b o (Nat.ne_of_lt (Heap.lt_size e)) (Nat.ne_of_lt (Nat.lt_trans (Heap.lt_size e) hS1)) (k2 _ _ (hk1 _ _ (k0 _ _ e)))⟩)
  first
    | exact wpAny_pure ⟨plainId_quiet ud_plain _, key⟩
    | exact wpAny_bind (wpAny_pure (wpAny_pure ⟨plainId_quiet ud_plain _, key⟩))
end
section
variable {X : Cx}
abbrev rDictT (K : PySem.W.Frag) : List V → Hp → VK → Prop := fun xs H Q => ∃ (a : Addr) (o : Obj) (ps : List Addr) (kvs : List (Key × V)), xs = [.ref a] ∧ H a = some (.frz o (.tup (ps.map V.ref))) ∧ o.dict = none ∧ Paired (fun p kv => SqT K H p [kV kv.1, kv.2]) ps kvs ∧
    ∀ p, H p = none → Q (.ref p) (upd H p (.dK (mergeK [] kvs)))
theorem call_dictT (hcalm : X.calm = true) : CallR X (.type "dict") (rDictT X.K) := by
  intro pins s σ H xs us Q I r q
  obtain ⟨a, ob, ps, kvs, ex, hq, hdn, hp, q⟩ := q
  subst ex
  obtain ⟨u, eu, rx⟩ := vals1 r
  subst eu
  cases rx
  obtain ⟨ho, hz, its, rv, o', ho', hc, n, hdat⟩ := (show ObjOk X.prog X.w H s.heap a (.frz ob (.tup (ps.map V.ref))) from I.hok a _ hq)
  have eo : o' = ob := by rw [ho] at ho'; exact (Option.some.inj ho').symm
  subst eo
  have ei := refs_at rv
  subst ei
  rw [List.length_map] at hz
  obtain ⟨prs, rel, hl, hpr⟩ := pairs_of I hp
  refine call_dict_tup (prs := prs) (I.ok.hd hcalm) ho hc hdn hdat (by simp [hl]) (by rw [hl]; exact hz) (fun j q' e => ?_) fun h' tk hd' k => ?_
  · obtain ⟨b, u, e1, e2, e3⟩ := hpr j q' e
    exact ⟨b, u, by simp [e1], e2, e3⟩
  · have hm : (s.heap.objs.size == sysModules) = false := beq_eq_false_iff_ne.mpr (Nat.ne_of_gt I.big)
    have hlen : (mergeK [] kvs).length ≤ sizeLine := by
      refine Nat.le_trans (length_mergeK kvs []) ?_
      rw [List.length_nil, Nat.zero_add, rel.length, hl]
      exact hz
    exact ⟨.ref s.heap.objs.size, upd H s.heap.objs.size (.dK (mergeK [] kvs)), I.laid (t' := tk) k (Nat.le_refl _) (show ObjOk X.prog X.w _ _ _ (.dK (mergeK [] kvs)) from ⟨hlen, hm, merged [] prs, KV.merge rel .nil, hd'⟩), rfl, q _ (I.hok.fresh (Nat.le_refl _))⟩
end
theorem callR_lock {f : Value} {r : List V → Hp → VK → Prop} (hc : CallR X f r) : CallR X f (fun xs H Q => r xs H (fun v H' => ∃ p kvs, v = .ref p ∧ H' p = some (.dK kvs) ∧ ∀ o, Q v (upd H' p (.frz o (.dK kvs))))) := fun pins s σ H xs us Q I rv h =>
  wpAny_mono (hc pins s σ H xs us _ I rv h) (fun v s' ⟨x, H', I1, rx, p, kvs, ex, hp, q⟩ => by
    obtain ⟨o, I2⟩ := I1.lock hp trivial
    exact ⟨x, _, I2, rx, q o⟩) fun _ _ z => z
abbrev rDictF (K : PySem.W.Frag) : List V → Hp → VK → Prop := fun xs H Q => rDictT K xs H (fun v H' => ∃ p kvs, v = .ref p ∧ H' p = some (.dK kvs) ∧ ∀ o, Q v (upd H' p (.frz o (.dK kvs))))
theorem call_dictF (hcalm : X.calm = true) : CallR X (.type "dict") (rDictF X.K) := callR_lock (call_dictT hcalm)
theorem upd_upd' {H : Hp} {p : Addr} {a b : HO} : upd (upd H p a) p b = upd H p b := funext fun x => by
  by_cases z : x = p
  · rw [z, upd_same, upd_same]
  · rw [upd_ne z, upd_ne z, upd_ne z]
def pairsD : List D → Option (List (Key × D))
  | [] => some []
  | .tup [k, d] :: ds => (match keyD k, pairsD ds with
    | some k, some r => some ((k, d) :: r)
    | _, _ => none)
  | _ => none
def mergeD (ks more : List (Key × D)) : List (Key × D) := more.foldl (fun acc kv => putD acc kv.1 kv.2) ks
theorem RpK.merge {K : PySem.W.Frag} {G : Hp} : ∀ {more : List (Key × V)} {md : List (Key × D)} {v : List (Key × V)} {d : List (Key × D)}, RpK K G more md → RpK K G v d → RpK K G (mergeK v more) (mergeD d md)
  | _, _, _, _, .nil, r => r
  | _, _, _, _, .cons (k := k0) h t, r => by
    have q := RpK.merge t (r.put (k := k0) h)
    exact q
theorem pairsD_ok {K : PySem.W.Frag} {G : Hp} : ∀ {ds : List D} {xs : List V} {kds : List (Key × D)}, pairsD ds = some kds → RpA K G xs ds → ∃ (ps : List Addr) (kvs : List (Key × V)), xs = ps.map V.ref ∧ Paired (fun p kv => SqT K G p [kV kv.1, kv.2]) ps kvs ∧ RpK K G kvs kds
  | [], _, _, h, .nil => by
    cases h
    exact ⟨[], [], rfl, .nil, .nil⟩
  | d :: ds, _, kds, h, .cons (v := v) (vs := vs) hv r => by
    cases d with
    | tup es =>
      cases es with
      | nil => cases h
      | cons k es =>
        cases es with
        | nil => cases h
        | cons x es =>
          cases es with
          | cons _ _ => cases h
          | nil =>
            simp only [pairsD] at h
            cases e1 : keyD k with
            | none => rw [e1] at h; cases h
            | some kk =>
              cases e2 : pairsD ds with
              | none => rw [e1, e2] at h; cases h
              | some rr =>
                rw [e1, e2] at h
                cases h
                obtain ⟨ps, kvs, q1, q2, q3⟩ := pairsD_ok e2 r
                cases hv with
                | @tup a ys _ h1 h2 =>
                  cases h2 with
                  | @cons v1 vs1 _ _ hk h3 =>
                    cases h3 with
                    | @cons v2 vs2 _ _ hx h4 =>
                      cases h4
                      have ek := keyD_ok (s := []) hk.e e1
                      subst ek
                      exact ⟨a :: ps, (kk, v2) :: kvs, by rw [q1]; rfl, .cons h1 q2, .cons hx q3⟩
    | _ => cases h
def dictD (r : Rho) : List D → R D
  | [.tpn ds] => (match pairsD ds with
    | some ks => .ok (.dic (mergeD [] ks))
    | none => .stuck)
  | [.lst ds] => (match pairsD ds with
    | some ks => .ok (.dic (mergeD [] ks))
    | none => .stuck)
  | [d] => (match viewK r d with
    | some ks => .ok (.dic ks)
    | none => .stuck)
  | _ => .stuck
abbrev lockK (r : List V → Hp → VK → Prop) : List V → Hp → VK → Prop := fun xs H Q => r xs H (fun v H' => ∃ p kvs, v = .ref p ∧ H' p = some (.dK kvs) ∧ ∀ o, Q v (upd H' p (.frz o (.dK kvs))))
abbrev rDictP (K : PySem.W.Frag) : List V → Hp → VK → Prop := fun xs H Q => ∃ (a : Addr) (ps : List Addr) (kvs : List (Key × V)), xs = [.ref a] ∧ SqL K H a (ps.map V.ref) ∧ Paired (fun p kv => SqT K H p [kV kv.1, kv.2]) ps kvs ∧ ∀ p, H p = none → Q (.ref p) (upd H p (.dK (mergeK [] kvs)))
abbrev rDictC : List V → Hp → VK → Prop := fun xs H Q => ∃ (a : Addr) (kvs : List (Key × V)), xs = [.ref a] ∧ Rd H a (.dK kvs) ∧ ∀ p, H p = none → Q (.ref p) (upd H p (.dK kvs))
abbrev rDictA (K : PySem.W.Frag) : List V → Hp → VK → Prop := fun xs H Q => rDictF K xs H Q ∨ (lockK (rDictP K) xs H Q ∨ lockK rDictC xs H Q)
theorem callR_or {X : Cx} {f : Value} {r r' : List V → Hp → VK → Prop} (h : CallR X f r) (h' : CallR X f r') : CallR X f (fun xs H Q => r xs H Q ∨ r' xs H Q) := fun pins s σ H xs us Q I rv q => by
  rcases q with q | q
  · exact h pins s σ H xs us Q I rv q
  · exact h' pins s σ H xs us Q I rv q
theorem call_dictA {X : Cx} (hcalm : X.calm = true) : CallR X (.type "dict") (rDictA X.K) := callR_or (call_dictF hcalm) (callR_or (callR_lock (call_dictP hcalm)) (callR_lock call_dictD))
theorem paired_mono {K : PySem.W.Frag} {G H : Hp} (e : Ex G H) : ∀ {ps : List Addr} {kvs : List (Key × V)}, Paired (fun p kv => SqT K G p [kV kv.1, kv.2]) ps kvs → Paired (fun p kv => SqT K H p [kV kv.1, kv.2]) ps kvs
  | _, _, .nil => .nil
  | _, _, .cons h t => .cons (ex_t e h) (paired_mono e t)
theorem paired_um {K : PySem.W.Frag} {G : Hp} : ∀ {ps : List Addr} {kvs : List (Key × V)}, Paired (fun p kv => SqT K G p [kV kv.1, kv.2]) ps kvs → Paired (fun p kv => SqT K (um G) p [kV kv.1, kv.2]) ps kvs
  | _, _, .nil => .nil
  | _, _, .cons h r => .cons (um_t h) (paired_um r)
theorem RpK.mono' {K : PySem.W.Frag} {G G' : Hp} (e : Ex G G') : ∀ {v : List (Key × V)} {d : List (Key × D)}, RpK K G v d → RpK K G' v d
  | _, _, .nil => .nil
  | _, _, .cons h r => .cons (h.mono e) (RpK.mono' e r)
theorem cs_dictD {K : PySem.W.Frag} : CallS K (rDictA K) dictD := by
  intro mg E T s H xs ds Q R rs h
  cases rs with
  | nil => exact h.elim
  | @cons v vs d ds rv rr =>
    cases rr with
    | cons _ _ => cases d <;> exact h.elim
    | nil =>
      have copy : ∀ ks, viewK T.r d = some ks → KE K mg E T s H (fun d G' H' => ∀ v, RpE K G' s v d → Q v H') (.ok (.dic ks)) → rDictA K [v] H Q := fun ks e h => by
        obtain ⟨a, kvs, rfl, ha, hr⟩ := viewK_ok R rv e
        exact .inr (.inr ⟨a, kvs, rfl, ha, fun l hl => ⟨l, _, rfl, upd_same, fun o => by
          rw [upd_upd']
          exact finNew (.dic ks) h R hl (Rp.dic upd_same (RpK.mono' (ex_new (R.gf _ hl)) hr))⟩⟩)
      cases d with
      | dic ks => exact copy ks rfl h
      | own i =>
        have h2 : KE K mg E T s H (fun d G' H' => ∀ v, RpE K G' s v d → Q v H') (match viewK T.r (.own i) with
          | some ks => .ok (.dic ks)
          | none => .stuck) := h
        cases e : viewK T.r (.own i) with
        | none => rw [e] at h2; exact h2.elim
        | some ks => rw [e] at h2; exact copy ks e h2
      | lst es =>
        simp only [dictD] at h
        cases e : pairsD es with
        | none => rw [e] at h; exact h.elim
        | some ks =>
          rw [e] at h
          cases (show Rp K T.G v (.lst es) from rv) with
          | lst h1 h3 =>
            obtain ⟨ps, kvs, q1, q2, q3⟩ := pairsD_ok e h3
            subst q1
            refine .inr (.inl ⟨_, ps, kvs, rfl, SqL.of (R.at h1 rfl), paired_mono R.gh (paired_um q2), fun l hl => ⟨l, _, rfl, upd_same, fun o => by
              rw [upd_upd']
              exact finNew (.dic (mergeD [] ks)) h R hl (Rp.dic upd_same (RpK.mono' (ex_new (R.gf _ hl)) (RpK.merge q3 .nil)))⟩⟩)
      | tpn es =>
        simp only [dictD] at h
        cases e : pairsD es with
        | none => rw [e] at h; exact h.elim
        | some ks =>
          rw [e] at h
          cases (show Rp K T.G v (.tpn es) from rv) with
          | @tpn a o ys _ h1 h2 h3 =>
            obtain ⟨ps, kvs, q1, q2, q3⟩ := pairsD_ok e h3
            subst q1
            refine .inl ⟨a, o, ps, kvs, rfl, R.at h1 rfl, h2, paired_mono R.gh (paired_um q2), fun l hl => ⟨l, _, rfl, upd_same, fun o => by
              rw [upd_upd']
              exact finNew (.dic (mergeD [] ks)) h R hl (Rp.dic upd_same (RpK.mono' (ex_new (R.gf _ hl)) (RpK.merge q3 .nil)))⟩⟩
      | _ => exact h.elim
end PL
end
section
namespace PL
open PySem PySem.Spec PyProof.Rows L2
section
variable {prog : Program} {w : World} {A : Around} {E : Value → Shared → Prop} {s : Shared}
end
section
variable {X : Cx} {E : WX}
end
section
variable {prog : Program} {w : World} {A : Around} {E : Value → Shared → Prop} {s : Shared} {T : String} {r d : Addr} {n : Nat} {P : Nat → Value → Prop} {OK : Heap → Prop}
end
end PL
end
section
namespace PL
open PySem PySem.Spec PyProof.Rows L2
def ISt (w : World) (h : Heap) (a : Addr) (ks : List Int) : Prop :=
  ∃ o es ep t, h.get? a = some o ∧ o.ExactSet ∧ o.data = .set es ep t ∧ (∀ e ∈ es.toList, ∃ k tk, e.2 = Value.int k tk ∧ e.1 = hashInt k) ∧ (es.toList.map keyOf).Perm ks ∧ ks.Nodup ∧
    es.size < scanBound ∧ t.fits es.size = true ∧ Ris t.place.toList ∧ (w.params.followText "set-order" = true ∨ t.led = true)
section
variable {P : Program} {w : World} {A : Around} {E : Value → Shared → Prop} {s : Shared} {a : Addr} {ks : List Int}
theorem ISt.keep {h h' : Heap} (R : ISt w h a ks) (k : ∀ o, h.get? a = some o → h'.get? a = some o) : ISt w h' a ks := by
  obtain ⟨o, es, ep, t, ho, r⟩ := R
  exact ⟨o, es, ep, t, k o ho, r⟩
end
section
variable {prog : Program} {w : World} {A : Around} {R : Result → Shared → Prop} {I : Addr} {fp wr : List Addr} {G : Array GenState → Array GenState → Prop} {n : Nat} {P : Nat → Value → Prop} {St : Nat → Shared → Prop}
end
section
variable {P : Program} {w : World} {A : Around} {E : Value → Shared → Prop} {s : Shared}
end
end PL
end
section
namespace PL
open PySem PySem.Spec PyProof.Rows L2 PySem.W
section
variable {prog : Program} {w : World} {A : Around} {E : Value → Shared → Prop} {s : Shared}
end
section
variable {prog : Program} {w : World} {A : Around} {E : Value → Shared → Prop} {s : Shared}
theorem ne_lo {a b lo : Addr} (h1 : a < lo) (h2 : lo ≤ b) : b ≠ a := Nat.ne_of_gt (Nat.lt_of_lt_of_le h1 h2)
structure ZAt (h : Heap) (z TI TO i1 i2 l1 l2 : Addr) (xs ys : Array Value) (k lo : Nat) : Prop where
  ti : IsPair h TI (.ref i1) (.ref i2)
  a1 : h.IsTupleIter i1 l1 k
  a2 : h.IsTupleIter i2 l2 k
  b1 : h.IsTuple l1 xs
  b2 : h.IsTuple l2 ys
  zz : (IsZip h z TI TO .none ∧ ∃ a b, IsPair h TO a b) ∨ ∃ T f oT, IsZipHeld h z TI TO T f ∧ h.get? T = some oT ∧ lo ≤ T
theorem ZAt.keep {h h' : Heap} {z TI TO i1 i2 l1 l2 S lo : Addr} {xs ys : Array Value} {k : Nat} (Z : ZAt h z TI TO i1 i2 l1 l2 xs ys k lo) (hS : S < lo) (dS : S ≠ z ∧ S ≠ TO ∧ S ≠ i1 ∧ S ≠ i2 ∧ S ≠ TI ∧ S ≠ l1 ∧ S ≠ l2) (hk : ∀ b o, b ≠ S → h.get? b = some o → h'.get? b = some o) : ZAt h' z TI TO i1 i2 l1 l2 xs ys k lo where
  ti := hk _ _ (Ne.symm dS.2.2.2.2.1) Z.ti
  a1 := by
    obtain ⟨o, ho, r⟩ := Z.a1
    exact ⟨o, hk _ _ (Ne.symm dS.2.2.1) ho, r⟩
  a2 := by
    obtain ⟨o, ho, r⟩ := Z.a2
    exact ⟨o, hk _ _ (Ne.symm dS.2.2.2.1) ho, r⟩
  b1 := by
    obtain ⟨o, ho, r⟩ := Z.b1
    exact ⟨o, hk _ _ (Ne.symm dS.2.2.2.2.2.1) ho, r⟩
  b2 := by
    obtain ⟨o, ho, r⟩ := Z.b2
    exact ⟨o, hk _ _ (Ne.symm dS.2.2.2.2.2.2) ho, r⟩
  zz := by
    rcases Z.zz with ⟨hz, a, b, hTO⟩ | ⟨T, f, oT, hz, hT, hTl⟩
    · exact .inl ⟨hk _ _ (Ne.symm dS.1) hz, a, b, hk _ _ (Ne.symm dS.2.1) hTO⟩
    · exact .inr ⟨T, f, oT, hk _ _ (Ne.symm dS.1) hz, hk _ _ (ne_lo hS hTl) hT, hTl⟩
end
section
variable {X : Cx}
end
end PL
end
section
namespace PL
open PySem PySem.Spec PyProof.Rows L2
section
variable {X : Cx} {pins : List (Addr × Obj)} {σ : St} {H : Hp} {s : Shared} {a : Addr}
theorem inv_track {φ : Heap → Prop} (I : Inv X pins σ H s) (n0 : X.s_0.heap.get? a = none) (na : H a = none) (new : ObjOk X.prog X.w (upd H a (.ext φ)) s.heap a (.ext φ)) (nL : a ≠ X.env.locals)
    (nC : ∀ x c, X.env.cells.lookup x = some c → c ≠ a) (np : ∀ p ∈ X.pn ++ pins, p.1 ≠ a) : Inv X pins σ (upd H a (.ext φ)) s where
  ok := I.ok
  os := I.os
  bare := I.bare
  base := ⟨I.base.keep, I.base.slot, fun b o e n hx => by
      rw [upd_ne (fun z => by rw [z, n0] at e; cases e)]
      exact I.base.free b o e n hx, I.base.there, fun b xs e => by
      have q := I.base.tups b xs e
      rw [upd_ne (ne_of_none q na)]
      exact q, fun b o u e => by
      have q := I.base.frzs b o u e
      rw [upd_ne (ne_of_none q na)]
      exact q, fun b ps e => by
      obtain ⟨m, q⟩ := I.base.tbls b ps e
      exact ⟨m, by rw [upd_ne (ne_of_none q na)]; exact q⟩⟩
  loc := I.loc
  cell := I.cell
  free := by rw [upd_ne (Ne.symm nL)]; exact I.free
  freeC := fun x c e => by rw [upd_ne (nC x c e)]; exact I.freeC x c e
  pin := fun p hp => by
    obtain ⟨h1, h2, h3⟩ := I.pin p hp
    exact ⟨h1, by rw [upd_ne (np p hp)]; exact h2, h3⟩
  hok := fun b u e => by
    by_cases hb : b = a
    · subst hb
      rw [upd_same] at e
      cases e
      exact new
    · rw [upd_ne hb] at e
      exact (I.hok b u e).stay (fun c v _ q => q) (fun c q => by rw [upd_ne (ne_of_none q na)]; exact q) fun c xs q => by rw [upd_ne (ne_of_none q na)]; exact q
  len := I.len
end
def wKeep (K : PySem.W.Frag) (c : Value) (i : Nat) (ts : TS) (D : Ends) : WX := fun cls d σ H => PySem.W.exmOne K cls c = some true ∧ d = none ∧
  ∀ a, H a = none → ts { nx := fun σ' H' => D.nx (σ'.set i none) (upd H' a (ExcO cls a)), rt := fun _ _ => False } (σ.set i (some (.ref a))) H
section
variable {X : Cx}
structure Alien (X : Cx) (pins : List (Addr × Obj)) (a : Addr) : Prop where
  start : X.s_0.heap.get? a = none
  locals : a ≠ X.env.locals
  frames : a ∉ X.fs
  cells : ∀ x c, X.env.cells.lookup x = some c → c ≠ a
  pins : ∀ p ∈ X.pn ++ pins, p.1 ≠ a
theorem alien_of {pins : List (Addr × Obj)} {σ : St} {H : Hp} {t : Shared} {B g : Heap} {a : Addr} {Z : Obj → Prop} (I : Inv X pins σ H t) (hs : X.stack = X.env :: X.outer) (hf : X.env.frame = some X.env.locals) (hex : X.ex = [])
    (nb : ∀ b o, t.heap.get? b = some o → b ∉ frs X.stack → B.get? b = some o) (fl : HandSPX.FlyingZ B (X.env :: X.outer) a Z g) : Alien X pins a := by
  obtain ⟨_, hB, ff, _⟩ := id fl
  obtain ⟨oe, vs, ge, _, de⟩ := fl.there
  have out : a ∉ frs (X.env :: X.outer) := fun m => by
    obtain ⟨_, o, go, no⟩ := ff.mem m
    cases ge.symm.trans go
    exact no _ de
  have gone : ∀ o, t.heap.get? a ≠ some o := fun o e => by
    have := nb a o e (hs ▸ out)
    rw [hB] at this
    cases this
  refine ⟨?_, fun z => out (List.mem_filterMap.mpr ⟨X.env, List.mem_cons_self, by rw [hf, z]⟩), fun m => ?_, fun x c e z => ?_, fun p hp z => gone _ (z ▸ (I.pin p hp).1)⟩
  · cases e : X.s_0.heap.get? a with
    | none => rfl
    | some o =>
      obtain ⟨o', e'⟩ := I.base.there a o e (by rw [hex]; simp)
      exact absurd e' (gone o')
  · obtain ⟨e, he, q⟩ := List.mem_filterMap.mp m
    exact out (List.mem_filterMap.mpr ⟨e, List.mem_cons_of_mem _ he, q⟩)
  · obtain ⟨_, o, ho, _⟩ := I.cell x c e
    exact gone o (z ▸ ho)
variable {x n : Str} {c : Value} {i : Nat} {body : List Stmt} {st : Stmt} {np pos pos' : Pos} {tb : WX → TS} {ts : TS}
theorem ps_keep (hs : X.stack = X.env :: X.outer) (hf : X.env.frame = some X.env.locals) (hex : X.ex = []) (hN : X.N.Nodup) (hi : X.N[i]? = some n) (hln : X.env.kindOf n = some .local) (hg : Gl X x) (hm : X.mg x = some c) (hdb : (x == ("__debug__" : Str)) = false)
    (hb : ∀ (W : WX) (pn : List (Addr × Obj)) (xe : Value → Shared → Prop), Takes (X.tr pn xe) W → PassesOwn (model X.prog X.w) X.A X.env xe → PSs (X.tr pn xe) body (tb W)) (hst : ∀ (a : Addr) (pn : List (Addr × Obj)), PSs (X.suite a pn) [st] ts) :
    PS X (.Try body [.ExceptHandler (some (.Name x np)) (some n) [st] pos'] [] [] pos) (fun D σ H => tb (wKeep X.K c i ts D) D σ H) := ⟨fun pins s0 σ0 H0 D I0 h0 => by
  have ok := I0.ok
  have fr : X.A.frames = some (X.env :: X.outer) := ok.frames.trans (congrArg some hs)
  refine wpAny_Try_except (wpAny_mono ((hb (wKeep X.K c i ts D) (X.pn ++ pins) _ (fun u t' ex => ?hot) PassesOwn.looking).run [] s0 σ0 H0 D (I0.toTry _) h0) (fun f t1 q => ?thru) (fun _ _ q => q))
  case thru =>
    cases f with
    | next =>
      obtain ⟨σ1, H1, J, q⟩ := q
      exact wpAny_execs_nil ⟨σ1, H1, J.ofTry ok, q⟩
    | brk =>
      obtain ⟨σ1, H1, J, q⟩ := q
      exact ⟨σ1, H1, J.ofTry ok, q⟩
    | cont =>
      obtain ⟨σ1, H1, J, q⟩ := q
      exact ⟨σ1, H1, J.ofTry ok, q⟩
    | ret u =>
      obtain ⟨v, σ1, H1, J, r, q⟩ := q
      exact ⟨v, σ1, H1, J.ofTry ok, r, q⟩
  case hot =>
    obtain ⟨a, B, t, _, σ, H, cls, d, rfl, J0, nb, up, sky, na, os, ag, hcls, rfl, yes⟩ := ex
    have J : Inv X pins σ H t := J0.ofTry ok
    rw [show (X.tr (X.pn ++ pins) _).stack = X.env :: X.outer from hs] at sky
    refine Sky.land Zc.steady fr hf sky fun g fl ug => ?_
    have al := alien_of J hs hf hex nb fl
    have Jg : Inv X pins σ H { t' with heap := g } := J.landed nb fl.1 (up.trans ug) os ag
    obtain ⟨oe, _, ge, ze, de⟩ := fl.there
    have type : PySem.W.Looks (model X.prog X.w) g (typeOf (.ref a)) cls := fun _ _ _ _ k q => wpAny_typeOf_ref (k _ _ ge) (ze.1 ▸ q)
    refine wpAny_handleBy_cons (codeAny_handlers_test (ld_glob (X := X.suite a ((a, oe) :: (X.pn ++ pins))) (Jg.suite ge de na al.locals al.frames) hg hm ((PySem.W.exm_one (M := model X.prog X.w) Jg.kIn type hcls).here ?_) hdb)) (fun q => by cases q)
    refine codeAny_handlers_suite_as (HandSPX.lands_againZ fl fun k fk uk => ?_)
    obtain ⟨ok2, vk, gk, zk, dk⟩ := fk.there
    have Sk := (J.landed (s' := { t' with heap := k }) nb fk.1 ((up.trans ug).trans uk) os ag).suite gk dk na al.locals al.frames
    refine store_ok (X := X.suite a ((a, ok2) :: (X.pn ++ pins))) (v := .ref a) Sk hN hi (.inl hln) rfl (fun s5 S5 => wpAny_mono ((hst a ((a, ok2) :: (X.pn ++ pins))).run [] s5 _ H _ S5 (yes a na)) (fun f s6 q => ?_) (fun _ _ z => z.elim)) (.inr hln)
    cases f with
    | next =>
      obtain ⟨σ6, H6, S6, q6⟩ := q
      obtain ⟨g6, n6, _⟩ := S6.pin (a, ok2) (List.mem_append_left _ List.mem_cons_self)
      have kn : Inv X pins σ6 (upd H6 a (ExcO cls a)) s6 := inv_track (S6.unsuite ok) al.start n6 ⟨⟨ok2, vk, g6, zk, dk⟩, ⟨ok2, g6⟩, fun _ _ ⟨o, vs, e1, e2, e3⟩ st => ⟨o, vs, st _ e1, e2, e3⟩⟩ al.locals al.cells al.pins
      exact gone_ok kn hN hi hln fun s7 J7 => ⟨_, _, J7, q6⟩
    | brk => obtain ⟨_, _, _, z⟩ := q; exact z.elim
    | cont => obtain ⟨_, _, _, z⟩ := q; exact z.elim
    | ret u => obtain ⟨_, _, _, _, _, z⟩ := q; exact z.elim⟩
end
end PL
end
section
namespace PL
open PySem PySem.Spec PyProof.Rows L2
def KS1 (K : PySem.W.Frag) (mg : Str → Option Value) (E : WX) (T : Stt) (s : St) (H : Hp) (Z : Ends) : R Fl → Prop
  | .ok f => KS K mg E T Z (.ok f)
  | .err c => ∀ H', Ex T.H0 H' → Ex H H' → E (clsV mg c) none s H'
  | .stuck => False
def tS1 (K : PySem.W.Frag) (mg : Str → Option Value) (E : WX) (f : Rho → R Fl) : TS := fun Z s H => ∃ T, Rl K T s H ∧ KS1 K mg E T s H Z (f T.r)
def SS1 (X : Cx) (E : WX) (st : Stmt) (f : Rho → R Fl) : Prop := PS X st (tS1 X.K X.mg E f)
def SSs1 (X : Cx) (E : WX) (st : List Stmt) (f : Rho → R Fl) : Prop := PSs X st (tS1 X.K X.mg E f)
section
variable {K : PySem.W.Frag} {mg : Str → Option Value} {E : WX}
theorem KS1.bnd {α : Type} {T : Stt} {Z : Ends} {s : St} {H : Hp} {x : R α} {k : α → R Fl} {P : α → Hp → Hp → Prop} (h : KS1 K mg E T s H Z (x.bnd k))
    (hk : ∀ d G' H', x = .ok d → Ex T.G G' → Ex H H' → Rel K T.G0 T.H0 T.r s G' H' → KS1 K mg E { T with G := G' } s H' Z (k d) → P d G' H') : KE K mg E T s H P x := by
  cases x with
  | ok d =>
    refine fun G' H' a b _ c => hk d G' H' rfl a b c ?_
    have h2 : KS1 K mg E T s H Z (k d) := h
    cases e : k d with
    | ok f => rw [e] at h2; exact KS.mono (T' := { T with G := G' }) (x := .ok f) h2 rfl rfl a
    | err c => rw [e] at h2; exact fun H2 e0 e2 => h2 H2 e0 (b.trans e2)
    | stuck => rw [e] at h2; exact h2
  | err c => exact h
  | stuck => exact h
end
section
variable {X : Cx} {E : WX} {st : Stmt} {rest b1 b2 : List Stmt} {f g f1 f2 : Rho → R Fl} {e c : Expr} {fe : Rho → R D} {fc : Rho → R Bool} {pos : Pos}
theorem sss1_one (h1 : SS1 X E st f) : SSs1 X E [st] f := pss_one h1
theorem ss1_set (i : Nat) {x : Str} {pos' : Pos} (hN : X.N.Nodup) (he : EV X E e fe) (hi : X.N[i]? = some x := by rfl) (hx : Loc X.env.scope x := by first | exact Or.inl rfl | exact Or.inr rfl) (hs : swapsWith e (some (.Name x pos')) pos.line X.env = pure false := by rfl) (hf : X.fn x = true ∨ X.env.scope.names.lookup x = some .local := by first | exact .inl rfl | exact .inr rfl | assumption) :
    SS1 X E (.Assign [.Name x pos'] e pos) (fAsg (.nm i) fe) :=
  ps_impL (ps_set hN hi hx he hs hf) fun Z s H sl ⟨T, R, h⟩ => ⟨T, R, KS1.bnd h fun d G1 H1 _ eg eh R1 h1 v rv => by
    unfold imD at h1
    cases e : noOwn d with
    | false => rw [e] at h1; exact h1.elim
    | true =>
      rw [e] at h1
      have h2 : KS1 X.K X.mg E { T with G := G1 } s H1 Z ((setT (.nm i) d T.r).bnd fun r' => .ok (.nx r')) := h1
      simp only [setT] at h2
      cases e2 : decide (i < T.r.length) with
      | false => rw [e2] at h2; exact h2.elim
      | true =>
        rw [e2] at h2
        exact h2 _ G1 H1 (Same.refl _) (R1.setIm (.pure (RpE.im e rv)) (n_lt hi sl))⟩
end
def dropOwn (r : Rho) : Rho := r.map fun x => match x with
  | .im d => .im d
  | .st w os => .st w os
  | _ => .un
def fTry (i j : Nat) (ns : List Str) (fb : Rho → R Fl) (r : Rho) : R Fl := match fb r with
  | .err c => if ns.contains c && decide (i < r.length ∧ j < r.length) then .ok (.nx (((dropOwn r).set j (.im (.exc c))).set i .un)) else .stuck
  | x => x
theorem Rel.dropOwn {K : PySem.W.Frag} {G0 H0 G H H' : Hp} {r : Rho} {s : St} (R : Rel K G0 H0 r s G H) (e0 : Ex H0 H') (e : Ex H H') : Rel K G0 H0 (dropOwn r) s G H' where
  gg := R.gg
  hh := e0
  gh := R.gh.trans e
  gf := fun a q => R.gf a (e.free q)
  nw := R.nw
  sl := fun i x hx => by
    unfold PL.dropOwn at hx
    rw [List.getElem?_map] at hx
    cases q : r[i]? with
    | none => rw [q] at hx; cases hx
    | some y =>
      rw [q] at hx
      have z := R.sl i y q
      cases y <;> first | (cases hx; exact trivial) | (cases hx; exact z) | (cases hx; exact StOk.mono (Same.refl _) e (fun _ _ q => q) z)
  ds := fun i j a h1 h2 => by
    exfalso
    obtain ⟨q, _⟩ := h1
    unfold PL.dropOwn at q
    rw [List.getElem?_map] at q
    cases e : r[i]? with
    | none => rw [e] at q; exact q
    | some y => rw [e] at q; cases y <;> exact q
  ln := by
    unfold PL.dropOwn
    refine ⟨by rw [List.length_map]; exact R.ln.lo, by rw [List.length_map]; exact R.ln.hi, fun i x hx => ?_⟩
    rw [List.getElem?_map] at hx
    cases q : r[i]? with
    | none => rw [q] at hx; cases hx
    | some y =>
      rw [q] at hx
      have z := R.ln.st i y q
      cases y <;> (cases hx; exact z)
structure CatC (K : PySem.W.Frag) (mg : Str → Option Value) (x c : Str) : Prop where
  mx : mg x = some (.ref (He.ga K x))
  mc : mg c = some (.ref (He.ga K c))
  ex : PySem.W.exmOne K (.ref (He.ga K c)) (.ref (He.ga K x)) = some true
section
variable {X : Cx} {E : WX} {body : List Stmt} {fb : Rho → R Fl} {x n kn : Str} {np np2 kp sp pos pos' : Pos}
theorem ss_try (i j : Nat) (ns : List Str) {k : Nat} (C : Cxt X E k) (hs : X.stack = X.env :: X.outer) (hfr : X.env.frame = some X.env.locals) (hex : X.ex = []) (hmx : X.mg x = some (.ref (He.ga X.K x))) (hg : Gl X x) (hcat : ∀ c ∈ ns, CatC X.K X.mg x c)
    (hb : ∀ (W : WX) (pn : List (Addr × Obj)) (xe : Value → Shared → Prop), Cxt (X.tr pn xe) W k → SSs1 (X.tr pn xe) W body fb) (hij : i ≠ j := by decide)
    (hi : X.N[i]? = some n := by rfl) (hj : X.N[j]? = some kn := by rfl) (hln : X.env.kindOf n = some .local := by rfl) (hlk : X.env.scope.names.lookup kn = some .local := by rfl) (hvn : Vis X.env.scope n := by exact Or.inl rfl)
    (hdb : (x == ("__debug__" : Str)) = false := by decide) (hdn : (n == ("__debug__" : Str)) = false := by decide) (hcn : (n == ("__classdict__" : Str)) = false := by decide)
    (hsw : swapsWith (.Name n np2) (some (.Name kn kp)) sp.line X.env = pure false := by rfl) :
    SS X E (.Try body [.ExceptHandler (some (.Name x np)) (some n) [.Assign [.Name kn kp] (.Name n np2) sp] pos'] [] [] pos) (fTry i j ns fb) := by
  refine ps_impL (ps_keep (tb := fun W => tS1 X.K X.mg W fb) (ts := tAsg (tVar i) (gName j)) hs hfr hex C.nd hi hln hg hmx hdb (fun W pn xe tk po => hb W pn xe ⟨C.hr, fun σ => passAt tk σ, C.hc, C.nd, po, tk⟩)
    (fun a pn => pss_one (ps_set C.nd hj (.inl hlk) (pe_var hi hvn hdn hcn) hsw (.inr hlk)))) fun Z s H sl ⟨T, R, h⟩ => ⟨T, R, ?_⟩
  unfold fTry at h
  cases e : fb T.r with
  | ok f => rw [e] at h; cases f <;> exact h
  | stuck => rw [e] at h; exact h
  | err c =>
    rw [e] at h
    cases e2 : (ns.contains c && decide (i < T.r.length ∧ j < T.r.length)) with
    | false => simp only [e2] at h; exact h.elim
    | true =>
      simp only [e2, if_true] at h
      rw [Bool.and_eq_true] at e2
      have cc := hcat c (by simpa using e2.1)
      have lt := of_decide_eq_true e2.2
      have ec : clsV X.mg c = .ref (He.ga X.K c) := by unfold clsV; rw [cc.mc]; rfl
      intro H' e0 e1
      refine ⟨by rw [ec]; exact cc.ex, rfl, fun a na => ?_⟩
      rw [ec]
      refine ⟨.ref a, List.getElem?_set_self (n_lt hi sl), ?_⟩
      have R1 : Rel X.K T.G0 T.H0 (dropOwn T.r) s T.G H' := R.dropOwn e0 e1
      have ld : (dropOwn T.r).length = T.r.length := by unfold dropOwn; rw [List.length_map]
      have R2 := ((R1.new (o := ExcO (.ref (He.ga X.K c)) a) na).setIm (i := j) (v := .ref a) (d := .exc c) (.pure (.exc upd_same)) (n_lt hj sl)).setUn (i := i) (o := none) (by rw [List.length_set]; exact n_lt hi sl)
      have es : ((s.set i (some (V.ref a))).set j (some (V.ref a))).set i none = (s.set j (some (V.ref a))).set i none := by
        rw [List.set_comm _ _ hij, List.set_set]
      show Z.nx (((s.set i (some (V.ref a))).set j (some (V.ref a))).set i none) _
      rw [es]
      exact h _ _ _ (ex_new (R.gf _ (e1.free na))) R2
end
def rIsX (K : PySem.W.Frag) : List V → Hp → VK → Prop := fun xs H Q => ∃ (a C : Addr) (c : V) (u : Value) (b : Bool), xs = [.ref a, c] ∧ H a = some (ExcO (.ref C) a) ∧ ExcC K C ∧ ClsV c u ∧ PySem.W.kitOne K (.ref C) u = some b ∧ Q (.bl b) H
theorem call_isX {X : Cx} : CallR X (.builtin "isinstance") (rIsX X.K) := fun pins s σ H xs us Q I r h => by
  obtain ⟨a, C, c, u, b, rfl, ha, ec, k, e, q⟩ := h
  obtain ⟨u1, u2, rfl, r1, r2⟩ := vals2 r
  cases (show u1 = Value.ref a from r1)
  cases k.eq r2
  obtain ⟨⟨⟨oc, od, oda, osl⟩, vs, g, ⟨z1, z2⟩, z3⟩, _⟩ := I.hok a _ ha
  dsimp only at z1 z2 z3
  subst z1 z2 z3
  exact PySem.W.kia_one (PySem.W.handS_kitx_exc ec.hg ec.hk ec.hs ec.hd ec.ha ec.hn ec.ht ec.hm) I.kIn ⟨g, rfl, rfl, trivial⟩ e (fun z => nomatch z) fun tk => ⟨.bl b, H, I.tok tk, rfl, q⟩
def subE (c x : Str) : Bool := x == "BlendError" || x == "ValueError" || c == x
def fIsE (ns : List Str) (x : Str) (fa : Rho → R D) (r : Rho) : R D := (fa r).bnd fun d => match d with
  | .exc c => if ns.contains c then .ok (.bl (subE c x)) else .stuck
  | _ => .stuck
structure IsC (K : PySem.W.Frag) (u : Value) (x c : Str) : Prop where
  ec : ExcC K (He.ga K c)
  kit : PySem.W.kitOne K (.ref (He.ga K c)) u = some (subE c x)
section
variable {X : Cx} {E : WX} {a : Expr} {fa : Rho → R D} {p p2 pos : Pos} {x : Str}
theorem isE_red {ns : List Str} {u : Value} {v : V} (k : ClsV v u) (hf : ∀ c ∈ ns, IsC X.K u x c) {s : St} {H : Hp} {Q : VK} (h : tE X.K X.mg E (fIsE ns x fa) s H Q) :
    tE X.K X.mg E fa s H fun w H1 => rIsX X.K [w, v] H1 Q := by
  obtain ⟨T, R, h⟩ := h
  refine ⟨T, R, KE.bnd h fun d G1 H1 _ eg eh R1 h1 w rw => ?_⟩
  cases d with
  | exc c =>
    simp only at h1
    cases e : ns.contains c with
    | false => rw [e] at h1; exact h1.elim
    | true =>
      rw [e] at h1
      have f := hf c (by simpa using e)
      cases (show Rp X.K G1 w (.exc c) from rw) with
      | exc hg => exact ⟨_, _, v, u, _, rfl, R1.at hg rfl, f.ec, k, f.kit, fin (T := { T with G := G1 }) (.bl _) h1 R1 (Rp.bl _)⟩
  | _ => exact h1.elim
theorem ev_isE (ns : List Str) (hg : Gl X "isinstance") (hm : X.mg "isinstance" = none) (hgx : Gl X x) (hmx : X.mg x = some (.ref (He.ga X.K x))) (hf : ∀ c ∈ ns, IsC X.K (.ref (He.ga X.K x)) x c) (ha : EV X E a fa) (hd : (x == ("__debug__" : Str)) = false := by decide)
    (hs : starEach [a, .Name x p2] X.env = (false, eval a X.env) :: starEach [.Name x p2] X.env := by rfl) : EV X E (.Call (.Name "isinstance" p) [a, .Name x p2] [] pos) (fIsE ns x fa) :=
  pe_imp (pe_callB call_isX hg hm (by decide +kernel) (pa_cons ha (pa_cons (pe_glob (v := .ref (He.ga X.K x)) hgx hmx rfl hd) pa_nil) hs) (he := hs)) fun s H Q h => isE_red (.own _) hf h
theorem ev_isEB {B : String} (ns : List Str) (hg : Gl X "isinstance") (hm : X.mg "isinstance" = none) (hgx : Gl X x) (hmx : X.mg x = none) (hv : bootBuiltins x = some (.type B)) (hf : ∀ c ∈ ns, IsC X.K (.type B) x c) (ha : EV X E a fa) (hn : x ≠ "__name__" := by decide) (hd : (x == ("__debug__" : Str)) = false := by decide)
    (hs : starEach [a, .Name x p2] X.env = (false, eval a X.env) :: starEach [.Name x p2] X.env := by rfl) : EV X E (.Call (.Name "isinstance" p) [a, .Name x p2] [] pos) (fIsE ns x fa) :=
  pe_imp (pe_callB call_isX hg hm (by decide +kernel) (pa_cons ha (pa_cons (pe_bltn (v := .ty B) hgx hmx hv rfl hn hd) pa_nil) hs) (he := hs)) fun s H Q h => isE_red (.ty _) hf h
end
theorem bools_vals : ∀ {bs : List Bool} {its : List Value}, Vals (bs.map V.bl) its → its = bs.map Value.bool
  | [], _, .nil => rfl
  | b :: bs, _, .cons r t => by
    cases (show _ = Value.bool b from r)
    rw [bools_vals t]
    rfl
def isB (k : Bool) : Value → Bool
  | .bool b => b == k
  | _ => false
theorem isB_count (k : Bool) : ∀ bs : List Bool, (bs.map Value.bool).countP (isB k) = bs.count k
  | [] => rfl
  | b :: bs => by
    rw [List.map_cons, List.countP_cons, List.count_cons, isB_count k bs]
    rfl
def rCntB (K : PySem.W.Frag) : V → List V → Hp → VK → Prop := fun x xs H Q => ∃ (p : Addr) (bs : List Bool) (k : Bool), x = .ref p ∧ xs = [.bl k] ∧ SqL K H p (bs.map V.bl) ∧ Q (.int (bs.count k : Nat)) H
theorem mt_bcount {X : Cx} : MtR X "list.count" (rCntB X.K) := fun pins s σ H x xs v us Q I rx rxs h => by
  obtain ⟨p, bs, k, rfl, rfl, hs, q⟩ := h
  cases (show v = Value.ref p from rx)
  obtain ⟨u, rfl, ru⟩ := rxs.one
  cases (show u = Value.bool k from ru)
  obtain ⟨its, rv, ⟨⟨cls, dd, data, sl⟩, n, ho, hc, hdn, hd⟩, hlen⟩ := I.list hs
  dsimp only at hc hd
  subst hc hd
  cases bools_vals rv
  refine call_meets PySem.F.slot_list_count ⟨_, ho, rfl⟩ PySem.F.entry_list_count (PySem.F.args_list_count_2 _ _) (SeqAt.list_countAt p (bs.map Value.bool).toArray n dd sl (.bool k) (isB k)) ⟨ho, fun y hy => ?_, ?_⟩
  · obtain ⟨b, _, rfl⟩ := List.mem_map.mp (by simpa using hy : y ∈ bs.map Value.bool)
    exact SeqAt.EqAt.bool_bool b k
  · refine ⟨.int (bs.count k : Nat), H, I.tok _, ⟨s.toks, ?_⟩, q⟩
    rw [← isB_count k bs]
def cntD (r : Rho) (x y : D) : R D := match viewL r x, y with
  | some ds, .bl k => (match boolsOf ds with
    | some bs => .ok (.int (bs.count k : Nat))
    | none => .stuck)
  | _, _ => .stuck
def idxD (r : Rho) (x y : D) : R D := match viewL r x, y with
  | some ds, .bl k => (match boolsOf ds with
    | some bs => (match bs.findIdx? (· == k) with
      | some j => .ok (.int (j : Nat))
      | none => .stuck)
    | none => .stuck)
  | _, _ => .stuck
theorem bls_flat (bs : List Bool) : (bs.map V.bl).all flatV = true := by
  rw [List.all_eq_true]
  intro v hv
  obtain ⟨b, _, rfl⟩ := List.mem_map.mp hv
  rfl
def fBm (g : Rho → D → D → R D) (k : Bool) (fa : Rho → R D) (r : Rho) : R D := (fa r).bnd fun d => g r d (.bl k)
section
variable {X : Cx} {E : WX} {a : Expr} {fa : Rho → R D} {apos cpos p : Pos} {k : Bool} {j : Nat}
theorem ev_cnt (ha : EV X E a fa) (hbase : attributeBase a "count" X.env (eval a X.env) = eval a X.env := by rfl)
    (hfew : ((backTo cpos (starEach [.Constant (.bool k) j p] X.env)).all (fun x => !x.1) && (backToKw cpos (keywordEach [] X.env)).all (fun x => x.1.isSome)
      && decide ([Expr.Constant (.bool k) j p].length + ([] : List Keyword).length + (if ([] : List Keyword).isEmpty then 0 else 1) < 30)) = true := by rfl)
    (hline : (apos.endLine == cpos.line) = true := by rfl) (hs : starEach [.Constant (.bool k) j p] X.env = (false, eval (.Constant (.bool k) j p) X.env) :: starEach [] X.env := by rfl) (hplain : (backTo cpos (starEach [] X.env)).any (·.1) = false := by rfl) :
    EV X E (.Call (.Attribute a "count" apos) [.Constant (.bool k) j p] [] cpos) (fBm cntD k fa) :=
  pe_imp (pe_bm PySem.F.plainAttrs_list PySem.F.slot_list_count PySem.F.type_list_count mt_bcount ha (pa_cons pe_bl pa_nil hs) hbase hfew hline hs hplain) fun s H Q ⟨T, R, h⟩ => ⟨T, R, KE.bnd h fun d G1 H1 _ eg eh R1 h1 v rv => by
    unfold cntD at h1
    cases e1 : viewL T.r d with
    | none => rw [e1] at h1; exact h1.elim
    | some ds =>
      rw [e1] at h1
      cases e2 : boolsOf ds with
      | none => simp only [e2] at h1; exact h1.elim
      | some bs =>
        simp only [e2] at h1
        obtain ⟨q, xs, rfl, hq, hr⟩ := viewL_ok (T := { T with G := G1 }) R1 rv e1
        cases boolsOf_ok e2 hr
        exact ⟨.inl ⟨rfl, _, SqL.of hq⟩, q, bs, k, rfl, rfl, SqL.of hq, fin (T := { T with G := G1 }) (.int _) h1 R1 (Rp.int _)⟩⟩
theorem ev_idx (ha : EV X E a fa) (hbase : attributeBase a "index" X.env (eval a X.env) = eval a X.env := by rfl)
    (hfew : ((backTo cpos (starEach [.Constant (.bool k) j p] X.env)).all (fun x => !x.1) && (backToKw cpos (keywordEach [] X.env)).all (fun x => x.1.isSome)
      && decide ([Expr.Constant (.bool k) j p].length + ([] : List Keyword).length + (if ([] : List Keyword).isEmpty then 0 else 1) < 30)) = true := by rfl)
    (hline : (apos.endLine == cpos.line) = true := by rfl) (hs : starEach [.Constant (.bool k) j p] X.env = (false, eval (.Constant (.bool k) j p) X.env) :: starEach [] X.env := by rfl) (hplain : (backTo cpos (starEach [] X.env)).any (·.1) = false := by rfl) :
    EV X E (.Call (.Attribute a "index" apos) [.Constant (.bool k) j p] [] cpos) (fBm idxD k fa) :=
  pe_imp (pe_bm PySem.F.plainAttrs_list PySem.F.slot_list_index PySem.F.type_list_index mt_index ha (pa_cons pe_bl pa_nil hs) hbase hfew hline hs hplain) fun s H Q ⟨T, R, h⟩ => ⟨T, R, KE.bnd h fun d G1 H1 _ eg eh R1 h1 v rv => by
    unfold idxD at h1
    cases e1 : viewL T.r d with
    | none => rw [e1] at h1; exact h1.elim
    | some ds =>
      rw [e1] at h1
      cases e2 : boolsOf ds with
      | none => simp only [e2] at h1; exact h1.elim
      | some bs =>
        simp only [e2] at h1
        obtain ⟨q, xs, rfl, hq, hr⟩ := viewL_ok (T := { T with G := G1 }) R1 rv e1
        cases boolsOf_ok e2 hr
        cases e3 : bs.findIdx? (· == k) with
        | none => simp only [e3] at h1; exact h1.elim
        | some m =>
          simp only [e3] at h1
          rw [List.findIdx?_eq_some_iff_getElem] at e3
          obtain ⟨hm, e4, e5⟩ := e3
          refine ⟨.inl ⟨rfl, _, SqL.of hq⟩, q, bs.map V.bl, .bl k, m, .bl bs[m], rfl, rfl, SqL.of hq, rfl, bls_flat bs, by rw [List.getElem?_map, List.getElem?_eq_getElem hm]; rfl, e4, fun n z hn hz => ?_, fin (T := { T with G := G1 }) (.int _) h1 R1 (Rp.int _)⟩
          rw [List.getElem?_map, List.getElem?_eq_getElem (by omega)] at hz
          cases hz
          have := e5 n hn
          show (bs[n] == k) = false
          simpa using this⟩
end
def ecB (K : PySem.W.Frag) (C : Addr) : Bool := decide (PySem.W.findIn K (.ref C) "__getattribute__" = some (some (.builtin "BaseException.__getattribute__"))) && (decide (PySem.W.findIn K (.ref C) "__getattr__" = some none) && (decide (PySem.W.subIn K (.ref C) (.type "BaseException") = some true) &&
  (PySem.W.hasDictIn K C && (decide (PySem.W.findIn K (.ref C) "__class__" = some (some (.builtin "object.__class__"))) && (decide (PySem.W.specialIn K (.builtin "object.__class__") "__get__" = some (some (.builtin "getset_descriptor.__get__"))) &&
  (decide (PySem.W.takesIn K (.builtin "object.__class__") = some true) && decide (PySem.W.mroIn K C (.type "object") = some true)))))))
theorem ecB_ok {K : PySem.W.Frag} {C : Addr} (h : ecB K C = true) : ExcC K C := by
  unfold ecB at h
  simp only [Bool.and_eq_true, decide_eq_true_eq] at h
  exact ⟨h.1, h.2.1, h.2.2.1, h.2.2.2.1, h.2.2.2.2.1, h.2.2.2.2.2.1, h.2.2.2.2.2.2.1, h.2.2.2.2.2.2.2⟩
def errB (cs xs : List Str) (K : PySem.W.Frag) : Bool := cs.all fun c => ecB K (He.ga K c) && (decide (PySem.W.exmOne K (.ref (He.ga K c)) (.ref (He.ga K "BlendError")) = some true) &&
  (decide (PySem.W.kitOne K (.ref (He.ga K c)) (.type "ValueError") = some (subE c "ValueError")) && xs.all fun x => decide (PySem.W.kitOne K (.ref (He.ga K c)) (.ref (He.ga K x)) = some (subE c x))))
structure ErrX (K : PySem.W.Frag) (mg : Str → Option Value) (cs xs : List Str) : Prop where
  gl : ∀ x ∈ cs ++ xs, mg x = some (.ref (He.ga K x))
  bl : mg "BlendError" = some (.ref (He.ga K "BlendError"))
  ve : mg "ValueError" = none
  ok : errB cs xs K = true
namespace ErrX
variable {K : PySem.W.Frag} {mg : Str → Option Value} {cs xs : List Str} (z : ErrX K mg cs xs)
include z
theorem at_ (c : Str) (h : c ∈ cs) : ExcC K (He.ga K c) ∧ PySem.W.exmOne K (.ref (He.ga K c)) (.ref (He.ga K "BlendError")) = some true ∧ PySem.W.kitOne K (.ref (He.ga K c)) (.type "ValueError") = some (subE c "ValueError") ∧ ∀ x ∈ xs, PySem.W.kitOne K (.ref (He.ga K c)) (.ref (He.ga K x)) = some (subE c x) := by
  have q := List.all_eq_true.mp z.ok c h
  simp only [Bool.and_eq_true, decide_eq_true_eq, List.all_eq_true] at q
  exact ⟨ecB_ok q.1, q.2.1, q.2.2.1, q.2.2.2⟩
theorem cat : ∀ c ∈ cs, CatC K mg "BlendError" c := fun c h => ⟨z.bl, z.gl c (List.mem_append_left _ h), (z.at_ c h).2.1⟩
theorem is_ (x : Str) (hx : x ∈ xs) : ∀ c ∈ cs, IsC K (.ref (He.ga K x)) x c := fun c h => ⟨(z.at_ c h).1, (z.at_ c h).2.2.2 x hx⟩
theorem iv : ∀ c ∈ cs, IsC K (.type "ValueError") "ValueError" c := fun c h => ⟨(z.at_ c h).1, (z.at_ c h).2.2.1⟩
theorem gx (x : Str) (hx : x ∈ xs) : mg x = some (.ref (He.ga K x)) := z.gl x (List.mem_append_right _ hx)
end ErrX
end PL
end
section
namespace PL
open PySem PySem.Spec PyProof.Rows L2
inductive RpS (K : PySem.W.Frag) (H G' H' : Hp) : List V → List Sl → List Addr → Prop
  | nil : RpS K H G' H' [] [] []
  | im {v : V} {d : D} {vs : List V} {ss : List Sl} {ps : List Addr} : RpO K G' v d → RpS K H G' H' vs ss ps → RpS K H G' H' (v :: vs) (.im d :: ss) ps
  | ol {p : Addr} {xs : List V} {ds : List D} {vs : List V} {ss : List Sl} {ps : List Addr} : H p = none → H' p = some (.lst xs) → G' p = none → RpA K G' xs ds → p ∉ ps → RpS K H G' H' vs ss ps → RpS K H G' H' (.ref p :: vs) (.ol ds :: ss) (p :: ps)
  | od {p : Addr} {xs : List (Key × V)} {ds : List (Key × D)} {vs : List V} {ss : List Sl} {ps : List Addr} : H p = none → H' p = some (.dK xs) → G' p = none → RpK K G' xs ds → p ∉ ps → RpS K H G' H' vs ss ps → RpS K H G' H' (.ref p :: vs) (.od ds :: ss) (p :: ps)
theorem RpS.low {K : PySem.W.Frag} {H H1 G' H' : Hp} (e : Ex H H1) : ∀ {vs : List V} {ss : List Sl} {ps : List Addr}, RpS K H1 G' H' vs ss ps → RpS K H G' H' vs ss ps
  | _, _, _, .nil => .nil
  | _, _, _, .im r t => .im r (t.low e)
  | _, _, _, .ol a b c d n t => .ol (e.free a) b c d n (t.low e)
  | _, _, _, .od a b c d n t => .od (e.free a) b c d n (t.low e)
theorem RpS.none {K : PySem.W.Frag} {H G' H' : Hp} : ∀ {vs : List V} {ss : List Sl} {ps : List Addr}, RpS K H G' H' vs ss ps → ∀ p ∈ ps, H p = none
  | _, _, _, .nil, p, h => by cases h
  | _, _, _, .im r t, p, h => t.none p h
  | _, _, _, .ol a b c d n t, p, h => by
    rcases List.mem_cons.mp h with e | e
    · rw [e]; exact a
    · exact t.none p e
  | _, _, _, .od a b c d n t, p, h => by
    rcases List.mem_cons.mp h with e | e
    · rw [e]; exact a
    · exact t.none p e
def tX (K : PySem.W.Frag) (mg : Str → Option Value) (E : WX) (f : Rho → R (List Sl)) : TA := fun s H Q => ∃ T, Rl K T s H ∧ KE K mg E T s H (fun ss G' H' => ∀ vs ps, RpS K H G' H' vs ss ps → Q vs H') (f T.r)
def EX (X : Cx) (E : WX) (es : List Expr) (f : Rho → R (List Sl)) : Prop := PA X es (tX X.K X.mg E f)
def fConsI (f : Rho → R D) (fs : Rho → R (List Sl)) (r : Rho) : R (List Sl) := (f r).bnd fun d => (imD d).bnd fun d => (fs r).bnd fun ss => .ok (.im d :: ss)
def fConsO (f : Rho → R (List D)) (fs : Rho → R (List Sl)) (r : Rho) : R (List Sl) := (f r).bnd fun ds => (fs r).bnd fun ss => .ok (.ol ds :: ss)
section
variable {X : Cx} {E : WX} {a : Expr} {es : List Expr} {fa : Rho → R D} {fn : Rho → R (List D)} {fs : Rho → R (List Sl)}
theorem ex_nil : EX X E [] (fun _ => .ok []) := pa_imp pa_nil fun s H Q ⟨T, R, h⟩ => h.here R [] [] .nil
theorem ex_im (ha : EV X E a fa) (hr : EX X E es fs) (hs : starEach (a :: es) X.env = (false, eval a X.env) :: starEach es X.env := by rfl) : EX X E (a :: es) (fConsI fa fs) :=
  pa_imp (pa_cons ha hr hs) fun s H Q ⟨T, R, h⟩ => ⟨T, R, KE.bnd h fun d G1 H1 _ eg eh R1 h1 v rv => by
    unfold imD at h1
    cases e : noOwn d with
    | false => rw [e] at h1; exact h1.elim
    | true =>
      rw [e] at h1
      exact ⟨{ T with G := G1 }, R1, KE.bnd (show KE X.K X.mg E { T with G := G1 } s H1 _ ((fs T.r).bnd fun ss => .ok (.im d :: ss)) from h1) fun ss G2 H2 _ eg2 eh2 R2 h2 vs ps rs =>
        KE.here h2 R2 _ ps (.im (.pure ((RpE.im e rv).mono eg2)) (rs.low eh))⟩⟩
theorem ex_ol (ha : EN X E a fn) (hr : EX X E es fs) (hs : starEach (a :: es) X.env = (false, eval a X.env) :: starEach es X.env := by rfl) : EX X E (a :: es) (fConsO fn fs) :=
  pa_imp (pa_cons ha hr hs) fun s H Q ⟨T, R, h⟩ => ⟨T, R, KE.bnd h fun ds G1 H1 _ eg eh R1 h1 p xs hp h2 hg hr =>
    ⟨{ T with G := G1 }, R1, KE.bndN (show KE X.K X.mg E { T with G := G1 } s H1 _ ((fs T.r).bnd fun ss => .ok (.ol ds :: ss)) from h1) fun ss G2 H2 _ eg2 eh2 nw R2 h3 vs ps rs => by
      refine KE.here h3 R2 _ (p :: ps) (.ol hp (eh2 _ _ h2) ?_ (hr.mono eg2) (fun m => ?_) (rs.low eh))
      · show G2 p = Option.none
        cases e : G2 p with
        | none => rfl
        | some o => exact absurd (nw.st p o e hg) (by rw [h2]; exact fun z => by cases z)
      · have := rs.none p m
        rw [h2] at this
        cases this⟩⟩
end
section
variable {K : PySem.W.Frag} {G0 H0 G H H' : Hp} {r : Rho} {s : St}
def FreeAt (r : Rho) (s : St) (p : Addr) : Prop := ∀ k, ¬ OwnAt r s k p
theorem free_im {i : Nat} {v : V} {d : D} {p : Addr} (hi : i < r.length) (h : FreeAt r s p) : FreeAt (r.set i (.im d)) (s.set i (some v)) p := fun k ⟨q1, q2⟩ => by
  by_cases e : k = i
  · subst e
    rw [List.getElem?_set_self hi] at q1
    exact q1
  · rw [List.getElem?_set_ne (Ne.symm e)] at q1 q2
    exact h k ⟨q1, q2⟩
theorem free_ol {i : Nat} {q : Addr} {x : Sl} {p : Addr} (hi : i < s.length) (n : p ≠ q) (h : FreeAt r s p) : FreeAt (r.set i x) (s.set i (some (.ref q))) p := fun k ⟨q1, q2⟩ => by
  by_cases e : k = i
  · subst e
    rw [List.getElem?_set_self hi] at q2
    cases q2
    exact n rfl
  · rw [List.getElem?_set_ne (Ne.symm e)] at q1 q2
    exact h k ⟨q1, q2⟩
def setAll : List Nat → List Sl → Rho → Rho
  | i :: is, x :: xs, r => setAll is xs (r.set i x)
  | _, _, r => r
def putAll : List Nat → List V → St → St
  | i :: is, v :: vs, s => putAll is vs (s.set i (some v))
  | _, _, s => s
theorem Rel.setAll {B : Hp} : ∀ {is : List Nat} {vs : List V} {ss : List Sl} {ps : List Addr} {r : Rho} {s : St}, RpS K B G H' vs ss ps → Rel K G0 H0 r s G H' → (∀ i ∈ is, i < s.length) → (∀ p ∈ ps, FreeAt r s p ∧ H0 p = none) → is.length = ss.length →
    Rel K G0 H0 (PL.setAll is ss r) (putAll is vs s) G H'
  | [], _, _, _, _, _, .nil, R, _, _, _ => R
  | [], _, _, _, _, _, .im _ _, _, _, _, h => by cases h
  | [], _, _, _, _, _, .ol _ _ _ _ _ _, _, _, _, h => by cases h
  | [], _, _, _, _, _, .od _ _ _ _ _ _, _, _, _, h => by cases h
  | _ :: _, _, _, _, _, _, .nil, _, _, _, h => by cases h
  | i :: is, _, _, _, r, s, .im rv t, R, hi, hp, hl => by
    have i0 := hi i List.mem_cons_self
    have q := Rel.setAll (is := is) (r := r.set i (.im _)) (s := s.set i (some _)) t (R.setIm rv i0) (fun j hj => by rw [List.length_set]; exact hi j (List.mem_cons_of_mem _ hj)) (fun p m => ⟨free_im (Nat.lt_of_lt_of_le i0 R.ln.lo) (hp p m).1, (hp p m).2⟩) (by simpa using hl)
    exact q
  | i :: is, _, _, _, r, s, .ol a b c d n t, R, hi, hp, hl => by
    have i0 := hi i List.mem_cons_self
    have f0 := hp _ List.mem_cons_self
    have q := Rel.setAll (is := is) (r := r.set i (.ol _)) (s := s.set i (some _)) t (R.setOl b c f0.2 (fun j _ => f0.1 j) d i0) (fun j hj => by rw [List.length_set]; exact hi j (List.mem_cons_of_mem _ hj))
      (fun p m => ⟨free_ol i0 (fun z => n (z ▸ m)) (hp p (List.mem_cons_of_mem _ m)).1, (hp p (List.mem_cons_of_mem _ m)).2⟩) (by simpa using hl)
    exact q
  | i :: is, _, _, _, r, s, .od a b c d n t, R, hi, hp, hl => by
    have i0 := hi i List.mem_cons_self
    have f0 := hp _ List.mem_cons_self
    have q := Rel.setAll (is := is) (r := r.set i (.od _)) (s := s.set i (some _)) t (R.setOd b c f0.2 (fun j _ => f0.1 j) d i0) (fun j hj => by rw [List.length_set]; exact hi j (List.mem_cons_of_mem _ hj))
      (fun p m => ⟨free_ol i0 (fun z => n (z ▸ m)) (hp p (List.mem_cons_of_mem _ m)).1, (hp p (List.mem_cons_of_mem _ m)).2⟩) (by simpa using hl)
    exact q
end
def fParX (is : List Nat) (fs : Rho → R (List Sl)) (r : Rho) : R Fl := (fs r).bnd fun ss => if decide (ss.length = is.length) && is.all (fun i => decide (i < r.length)) then .ok (.nx (setAll is ss r)) else .stuck
section
variable {X : Cx} {E : WX} {pos : Pos} {x y z : Str} {a b c : Expr} {fs : Rho → R (List Sl)} {px py pz pt : Pos} {kt k2 : Nat} {pt2 : Pos}
theorem parX_red {is : List Nat} {Z : Ends} {s : St} {H : Hp} (hlt : ∀ i ∈ is, i < s.length) (h : tS X.K X.mg E (fParX is fs) Z s H) : tX X.K X.mg E fs s H fun vs H1 => vs.length = is.length ∧ Z.nx (putAll is vs s) H1 := by
  obtain ⟨T, R, h⟩ := h
  refine ⟨T, R, KS.bnd h fun ss G1 H1 _ eg eh R1 h1 vs ps rs => ?_⟩
  cases e : (decide (ss.length = is.length) && is.all (fun i => decide (i < T.r.length))) with
  | false => rw [e] at h1; exact h1.elim
  | true =>
    rw [e] at h1
    rw [Bool.and_eq_true] at e
    have l1 := of_decide_eq_true e.1
    have lv : ∀ {vs : List V} {ss : List Sl} {ps : List Addr}, RpS X.K H G1 H1 vs ss ps → vs.length = ss.length := by
      intro vs ss ps q
      induction q with
      | nil => rfl
      | im _ _ ih => rw [List.length_cons, List.length_cons, ih]
      | ol _ _ _ _ _ _ ih => rw [List.length_cons, List.length_cons, ih]
      | od _ _ _ _ _ _ ih => rw [List.length_cons, List.length_cons, ih]
    refine ⟨(lv rs).trans l1, h1 _ G1 H1 (Same.refl _) (Rel.setAll rs R1 hlt (fun p hp => ⟨fun k o => ?_, R.hh.free (rs.none p hp)⟩) l1.symm)⟩
    obtain ⟨⟨u, q⟩, _⟩ := own_in R o
    rw [rs.none p hp] at q
    cases q
theorem ss_parX (i j : Nat) (hc : X.calm = true) (hN : X.N.Nodup) (ha : EX X E [a, b] fs) (hi : X.N[i]? = some x := by rfl) (hj : X.N[j]? = some y := by rfl) (hij : i ≠ j := by decide)
    (hx : X.env.scope.names.lookup x = some .local := by rfl) (hy : X.env.scope.names.lookup y = some .local := by rfl)
    (hw : swappedStores [.Tuple [.Name x px, .Name y py] kt pt] (.Tuple [a, b] k2 pt2) X.env = pure (some [x, y]) := by rfl)
    (hs : swapsWithSole [.Tuple [.Name x px, .Name y py] kt pt] (.Tuple [a, b] k2 pt2) pos.line X.env = pure false := by rfl) :
    SS X E (.Assign [.Tuple [.Name x px, .Name y py] kt pt] (.Tuple [a, b] k2 pt2) pos) (fParX [i, j] fs) :=
  ps_impL (ps_par hc hN hi hj hij hx hy ha hw hs) fun Z s H sl h => by
    obtain ⟨T, R, h⟩ := parX_red (fun q hq => by
      simp only [List.mem_cons, List.not_mem_nil, or_false] at hq
      rcases hq with rfl | rfl
      · exact n_lt hi sl
      · exact n_lt hj sl) h
    refine ⟨T, R, KE.imp h fun ss G1 H1 _ _ _ q vs ps rs => ?_⟩
    obtain ⟨l, q⟩ := q vs ps rs
    match vs, l with
    | [v, w], _ => exact ⟨v, w, rfl, q⟩
end
section
variable {X : Cx} {E : WX} {a b : Expr} {fa fb : Rho → R D} {pos : Pos}
end
def gNames (is : List Nat) : TGs := fun vs s H Q => vs.length = is.length ∧ Q (putAll is vs s) H
section
variable {X : Cx} {E : WX} {pos pt pt2 : Pos} {tg : Expr} {tgs es : List Expr} {fs : Rho → R (List Sl)} {kt k2 : Nat}
theorem gx_nil : PGs X [] (gNames []) := pgs_imp pgs_nil fun vs s H Q ⟨l, q⟩ => by
  cases vs with
  | nil => exact ⟨rfl, q⟩
  | cons _ _ => cases l
theorem gx_cons (i : Nat) {is : List Nat} {x : Str} (hN : X.N.Nodup) (h : PGs X tgs (gNames is)) (hi : X.N[i]? = some x := by rfl) (hx : Loc X.env.scope x := by first | exact Or.inl rfl | exact Or.inr rfl) (hf : X.fn x = true ∨ X.env.scope.names.lookup x = some .local := by first | exact .inl rfl | exact .inr rfl | assumption)
    (hs : (assignEach (.Name x pos :: tgs) X.env).map (·.2) = assign (.Name x pos) X.env :: (assignEach tgs X.env).map (·.2) := by rfl) : PGs X (.Name x pos :: tgs) (gNames (i :: is)) :=
  pgs_imp (pgs_cons (pg_name hN hi hx hf) h hs) fun vs s H Q ⟨l, q⟩ => by
    cases vs with
    | nil => cases l
    | cons v vs => exact ⟨v, vs, rfl, by simpa using l, q⟩
theorem ss_asgX {is : List Nat} (hc : X.calm = true) (ha : EX X E es fs) (hg : PGs X tgs (gNames is)) (hn : (assignEach tgs X.env).length = is.length := by rfl) (hst : (assignEach tgs X.env).findIdx? (·.1) = none := by rfl)
    (hs : swapsWithSole [.Tuple tgs kt pt] (.Tuple es k2 pt2) pos.line X.env = pure false := by rfl) (hw : swappedStores [.Tuple tgs kt pt] (.Tuple es k2 pt2) X.env = pure none := by rfl)
    (h1 : (assignEach [.Tuple tgs kt pt] X.env).map (·.2) = [assign (.Tuple tgs kt pt) X.env] := by rfl) (hlt : (is.all fun i => decide (i < X.N.length)) = true := by rfl) : SS X E (.Assign [.Tuple tgs kt pt] (.Tuple es k2 pt2) pos) (fun r => if decide (is.length ≤ 100) then fParX is fs r else .stuck) :=
  ps_impL (ps_asg (pe_tup ha) (pg_tup hc hg hn hst) hs hw h1) fun Z s H sl ⟨T, R, h⟩ => by
    cases el : decide (is.length ≤ 100) with
    | false => rw [el] at h; exact h.elim
    | true =>
      simp only [el, if_true] at h
      refine ⟨T, R, KS.bnd h fun ss G1 H1 _ eg eh R1 h1 vs ps rs => ?_⟩
      cases e : (decide (ss.length = is.length) && is.all (fun i => decide (i < T.r.length))) with
      | false => rw [e] at h1; exact h1.elim
      | true =>
        rw [e] at h1
        rw [Bool.and_eq_true] at e
        have l1 := of_decide_eq_true e.1
        have lv : ∀ {vs : List V} {ss : List Sl} {ps : List Addr}, RpS X.K H G1 H1 vs ss ps → vs.length = ss.length := by
          intro vs ss ps q
          induction q with
          | nil => rfl
          | im _ _ ih => rw [List.length_cons, List.length_cons, ih]
          | ol _ _ _ _ _ _ ih => rw [List.length_cons, List.length_cons, ih]
          | od _ _ _ _ _ _ ih => rw [List.length_cons, List.length_cons, ih]
        have lw := (lv rs).trans l1
        refine ⟨by rw [lw]; have := of_decide_eq_true el; rw [sizeLine_eq]; omega, fun p hp => ⟨p, vs, rfl, SqT.of upd_same, lw, lw, ?_⟩⟩
        have rs2 : ∀ {vs : List V} {ss : List Sl} {ps : List Addr}, RpS X.K H G1 H1 vs ss ps → RpS X.K H G1 (upd H1 p (.tup vs)) vs ss ps → True := fun _ _ => trivial
        have up : ∀ {o : HO} {vs : List V} {ss : List Sl} {ps : List Addr}, RpS X.K H G1 H1 vs ss ps → RpS X.K H G1 (upd H1 p o) vs ss ps := by
          intro o vs ss ps q
          induction q with
          | nil => exact .nil
          | im a _ ih => exact .im a ih
          | ol a b c d n _ ih => exact .ol a (by rw [upd_ne (ne_of_none b hp)]; exact b) c d n ih
          | od a b c d n _ ih => exact .od a (by rw [upd_ne (ne_of_none b hp)]; exact b) c d n ih
        refine h1 _ G1 _ (Same.refl _) (Rel.setAll (up rs) (R1.lay hp) (fun i hi => by rw [sl]; exact of_decide_eq_true (List.all_eq_true.mp hlt i hi)) (fun q hq => ⟨fun k o => ?_, R.hh.free (rs.none q hq)⟩) l1.symm)
        obtain ⟨⟨u, z⟩, _⟩ := own_in R o
        rw [rs.none q hq] at z
        cases z
end
end PL
end
section
namespace PL
open PySem PySem.Spec PyProof.Rows L2
abbrev TupF := Str × List He.Dv
inductive Xf where
  | tup (t : TupF) | errs (cs xs : List Str)
def Xf.ok (K : PySem.W.Frag) : Xf → Bool
  | .tup t => He.tupB K t.1 t.2
  | .errs cs xs => errB cs xs K
def tupsB (ts : List Xf) (K : PySem.W.Frag) : Bool := ts.all (Xf.ok K)
def obsM (n : Nat) (fa : List He.Fa) (fn : List He.DefD) (ts : List Xf) (g : Addr → Option Obj) : Bool × He.AlD :=
  (tupsB ts (He.frG g (He.asD g n)), He.obsDG n fa fn g)
def hookM (n : Nat) (fa : List He.Fa) (fn : List He.DefD) (ts : List Xf) : PySem.W.Hook where
  α := Bool × He.AlD
  obs := fun s => obsM n fa fn ts s.heap.get?
  val := fun _ => (true, He.valD fn)
  says := fun _ h => ∃ K : PySem.W.Frag, K.In h ∧ tupsB ts K = true ∧ He.SaysD fa fn K
  of := fun _ _ e => ⟨_, He.frG_in, congrArg (fun z : Bool × He.AlD => z.1) e, congrArg (fun z : Bool × He.AlD => z.2) e⟩
  keeps := fun _ _ _ ⟨K, hK, c⟩ k => ⟨K, PySem.W.Frag.In.keeps hK k, c⟩
theorem obsM_eq {n : Nat} {fa : List He.Fa} {fn : List He.DefD} {ts : List Xf} {g : Addr → Option Obj} {s : Shared} (h : ∀ a, g a = s.heap.get? a) : obsM n fa fn ts g = (hookM n fa fn ts).obs s := by
  have e : g = s.heap.get? := funext h
  rw [e] <;> rfl
section
variable {K : PySem.W.Frag} {mg : Str → Option Value} {h : Heap}
def dvD : He.Dv → D
  | .int i => .int i
  | .str x => .str x
  | .bl b => .bl b
  | _ => .non
def dvOk : He.Dv → Bool
  | .int _ => true
  | .str _ => true
  | .bl _ => true
  | .non => true
  | _ => false
theorem dvs_ok {G : Hp} : ∀ (vs : List He.Dv), vs.all dvOk = true → RpA K G (vs.map (He.Dv.v K)) (vs.map dvD)
  | [], _ => .nil
  | v :: vs, c => by
    rw [List.all_cons, Bool.and_eq_true] at c
    refine .cons ?_ (dvs_ok vs c.2)
    cases v <;> first | exact .non | exact .bl _ | exact .int _ | exact .str _ | cases c.1
theorem kon_tup (X : K.In h) (G : h.Ns mainGlobals mg) {x : Str} {vs : List He.Dv} {ts : List Xf} (g : (He.Fa.glo x).ok K = true) (t : tupsB ts K = true) (m : Xf.tup (x, vs) ∈ ts) (c : vs.all dvOk = true) : Kon K mg x (.tup (vs.map dvD)) :=
  ⟨_, .ref (He.ga K x), He.glo_ok X G g, rfl, fun G' => .tup (He.tupB_ok (List.all_eq_true.mp t _ m) G') (dvs_ok vs c)⟩
theorem kon_int (X : K.In h) (G : h.Ns mainGlobals mg) {x : Str} {i : Int} (g : (He.Fa.int x i).ok K = true) : Kon K mg x (.int i) := by
  obtain ⟨t, e⟩ := He.int_ok X G g
  exact ⟨_, .int i, e, ⟨t, rfl⟩, fun _ => .int i⟩
theorem kon_str (X : K.In h) (G : h.Ns mainGlobals mg) {x z : Str} (g : (He.Fa.str x z).ok K = true) : Kon K mg x (.str z) := by
  obtain ⟨t, e⟩ := He.str_ok X G g
  exact ⟨_, .str z, e, ⟨t, rfl⟩, fun _ => .str z⟩
theorem err_of (X : K.In h) (G : h.Ns mainGlobals mg) {x : Str} (g : (He.Fa.glo x).ok K = true) (e : (He.Fa.exc x).ok K = true) : ErrC K mg x := by
  obtain ⟨e1, e2, e3, e4⟩ := He.exc_ok e
  exact ⟨_, He.glo_ok X G g, e1, e2, e3, e4⟩
def btNames : List Str := ["len", "isinstance", "range", "tuple", "list", "dict", "zip", "sorted", "all", "any", "enumerate", "set", "str", "abs", "int", "bool", "max", "min", "sum"]
def btFa : List He.Fa := btNames.map .free
theorem bts_of (X : K.In h) (G : h.Ns mainGlobals mg) (c : ∀ f ∈ btFa, He.Fa.ok K f = true) : Bts mg :=
  have c : ∀ x ∈ btNames, (He.Fa.free x).ok K = true := fun x hx => c _ (List.mem_map_of_mem hx)
  { len := He.free_ok X G (c _ (by decide +kernel)),
    isinstance := He.free_ok X G (c _ (by decide +kernel)),
    range := He.free_ok X G (c _ (by decide +kernel)),
    tuple := He.free_ok X G (c _ (by decide +kernel)),
    list := He.free_ok X G (c _ (by decide +kernel)),
    dict := He.free_ok X G (c _ (by decide +kernel)),
    zip := He.free_ok X G (c _ (by decide +kernel)),
    sorted := He.free_ok X G (c _ (by decide +kernel)),
    all := He.free_ok X G (c _ (by decide +kernel)),
    any := He.free_ok X G (c _ (by decide +kernel)),
    enumerate := He.free_ok X G (c _ (by decide +kernel)),
    set := He.free_ok X G (c _ (by decide +kernel)),
    str := He.free_ok X G (c _ (by decide +kernel)),
    abs := He.free_ok X G (c _ (by decide +kernel)),
    int := He.free_ok X G (c _ (by decide +kernel)),
    bool := He.free_ok X G (c _ (by decide +kernel)),
    max := He.free_ok X G (c _ (by decide +kernel)),
    min := He.free_ok X G (c _ (by decide +kernel)),
    sum := He.free_ok X G (c _ (by decide +kernel)) }
theorem facts_of {fa : List He.Fa} {fn : List He.DefD} (c : He.SaysD fa fn K) : ∀ f ∈ fa, He.Fa.ok K f = true := fun f hf => by
  obtain ⟨i, hi⟩ := List.mem_iff_getElem?.mp hf
  exact c.fact i hi
end
def erFa (cs xs : List Str) : List He.Fa := .free "ValueError" :: .glo "BlendError" :: (cs ++ xs).map .glo
theorem errx_of {K : PySem.W.Frag} {mg : Str → Option Value} {h : Heap} {cs xs : List Str} {ts : List Xf} (X : K.In h) (G : h.Ns mainGlobals mg) (c : ∀ f ∈ erFa cs xs, He.Fa.ok K f = true) (t : tupsB ts K = true) (m : Xf.errs cs xs ∈ ts) : ErrX K mg cs xs where
  gl := fun x hx => He.glo_ok X G (c _ (List.mem_cons_of_mem _ (List.mem_cons_of_mem _ (List.mem_map_of_mem hx))))
  bl := He.glo_ok X G (c _ (List.mem_cons_of_mem _ List.mem_cons_self))
  ve := He.free_ok X G (c _ List.mem_cons_self)
  ok := List.all_eq_true.mp t _ m
theorem law_sp {K : PySem.W.Frag} {mg : Str → Option Value} {F : List D → R D} (hl : ∀ ns : List Int, ns.length ≤ 63 → F [.scr ns] = .ok (.bl true)) (H : Hp) (a : Addr) (ns : List Int) (hn : ns.length ≤ 63) (hS : SqL K H a (ns.map V.int)) :
    spF K mg 1 F [.ref a] H (fun v _ => v = .bl true) fun _ _ _ => False := by
  refine ⟨um H, [.scr ns], fun a o q => (um_is q).1, fun a o q => (um_is q).2, .cons (.scr (um_l hS)) .nil, rfl, ?_⟩
  rw [hl ns hn]
  intro v G' H' _ _ _ _ _ r
  cases r
  rfl
theorem walk_ofM {l : PySem.W.OpenLaw} {n k : Nat} {q : Program} {loose : List Str} {XP : (Str → Option Value) → Heap → Prop} {YP : World → Heap → Prop} {d : DefRec} {CX : World → CXT} {x : Str}
    (hn : l.most = some n) (hn2 : n ≤ sizeLine) (hdf : d.params.defaults = []) (hr : Room k callerA)
    (F : ∀ (w : World) (mg : Str → Option Value) (fa : Addr) (h : Heap), YP w h → h.Ns mainGlobals mg → mg d.name = some (.ref fa) →
      ∃ (K : PySem.W.Frag) (fd : FuncData) (sp : Sp), K.In h ∧ (∀ (s : Shared) (u : Value), BindsTo s fd ⟨[u], []⟩ [(x, u)]) ∧
        (∀ (H : Hp) (a : Addr) (ns : List Int), ns.length ≤ n → Only H → SqL K H a (ns.map V.int) → sp [.ref a] H (fun v _ => v = .bl true) fun _ _ _ => False) ∧
        ∀ base : Heap, K.In base → base.Ns mainGlobals mg → FnOk l.prog w K mg base (CX w) k fa fd [x] sp)
    (hCX : ∀ (w : World) (H : Hp) (s : Shared) (e : Value) (s' : Shared), CX w [] H s (fun _ _ _ => False) e s' → False) :
    PySem.W.WalkO q loose XP YP l.row.toRowW d [] (fun f vs => PySem.call f vs) := by
  refine Att.attach_call hn hdf fun w s₀ s₁ mg mb fa o pm cd doc a vs ns G Y ho hd hcd hmg hobj hints hlen hg => ?_
  obtain ⟨K, fd, sp, KX, hb, hsp, hF⟩ := F w mg fa _ Y G.T.g hmg
  exact law_call KX G.T.g G.T.b G.T.builtins G.T.nolimit hg hobj hints (Nat.le_trans hlen hn2) hr hF hb (fun H hO hS => hsp H a ns hlen hO hS) fun H e s' => hCX w H s₁ e s'
theorem cx_false {P : Program} {w : World} (H : Hp) (s : Shared) (e : Value) (s' : Shared) (h : L2.CX P w [] H s (fun _ _ _ => False) e s') : False := by
  obtain ⟨_, _, _, _, _, _, _, _, _, _, _, _, z⟩ := h
  exact z
end PL
end
section
open PySem PySem.Spec PyProof.Rows L2
namespace PL.G
def d_NOUGHT : D := (.tup [(.int 0), (.int 1)])
def d_ONE : D := (.tup [(.int 1), (.int 1)])
def d_LONGEST : D := (.int 6)
def d_SMALL : D := (.str (Str.ofString "abcdefghijklmnopqrstuvwxyz"))
def d_FARTHEST : D := (.int 999)
def d_FIGURES : D := (.str (Str.ofString "0123456789"))
noncomputable def B_u_law_names : Rho → R Fl := (fRet (fL (fLc [1, 2] (.tp [(.nm 1), (.nm 2)]) (fIt true (fVar 0)) (fun _ => .ok true) (fVar 1))))
noncomputable def F_u_law_names : List D → R D := runF B_u_law_names 3
noncomputable def B_is_name : Rho → R Fl := (fRet (fAndV (fIsi ["str"] (fVar 0)) (fAndV (fChain leD leD (fK (.int 1)) (fCallB lenD (fConsB (fVar 0) fNil)) (fK d_LONGEST)) (fCallB (allD fun bs => bs.all id) (fConsB (fL (fLc [1] (.nm 1) (fIt true (fVar 0)) (fun _ => .ok true) (fBin (inG false) (fVar 1) (fK d_SMALL)))) fNil)))))
noncomputable def F_is_name : List D → R D := runF B_is_name 2
noncomputable def B_u_law_spoilt : Rho → R Fl := (fSeq (fAsg (.nm 3) (fBin modI (fVar 1) (fBin addD (fCallB lenD (fConsB (fVar 0) fNil)) (fK (.int 1)))))
    (fSeq (fAsg (.nm 4) (fBin ixD (fVar 2) (fBin modI (fBin fdivI (fVar 1) (fK (.int 1000))) (fCallB lenD (fConsB (fVar 2) fNil)))))
    (fSeq (fAsg (.nm 5) (fBin addD (fBin addD (fVar 3) (fK (.int 1))) (fBin modI (fBin fdivI (fVar 1) (fK (.int 7))) (fK (.int 9)))))
    (fSeq (fAsg (.nm 6) (fBin modI (fBin fdivI (fVar 1) (fK (.int 100000))) (fK (.int 8))))
    (fSeq (fIfS (fTest (fBin ltD (fVar 6) (fK (.int 2)))) (fRet (fBin addD (fBin addD (fSl (fVar 0) (fun _ => .ok none) (fun r => ((fVar 3) r).bnd intOf)) (fVar 4)) (fSl (fVar 0) (fun r => ((fVar 3) r).bnd intOf) (fun _ => .ok none)))) fNx)
    (fSeq (fIfS (fTest (fBin eqD (fVar 6) (fK (.int 2)))) (fRet (fBin addD (fSl (fVar 0) (fun _ => .ok none) (fun r => ((fVar 3) r).bnd intOf)) (fSl (fVar 0) (fun r => ((fBin addD (fVar 3) (fK (.int 1))) r).bnd intOf) (fun _ => .ok none)))) fNx)
    (fSeq (fIfS (fTest (fBin ltD (fVar 6) (fK (.int 5)))) (fRet (fBin addD (fBin addD (fSl (fVar 0) (fun _ => .ok none) (fun r => ((fVar 3) r).bnd intOf)) (fVar 4)) (fSl (fVar 0) (fun r => ((fBin addD (fVar 3) (fK (.int 1))) r).bnd intOf) (fun _ => .ok none)))) fNx)
    (fSeq (fIfS (fTest (fBin eqD (fVar 6) (fK (.int 5)))) (fRet (fBin addD (fSl (fVar 0) (fun _ => .ok none) (fun r => ((fVar 3) r).bnd intOf)) (fSl (fVar 0) (fun r => ((fVar 5) r).bnd intOf) (fun _ => .ok none)))) fNx)
    (fSeq (fIfS (fTest (fBin eqD (fVar 6) (fK (.int 6)))) (fRet (fBin addD (fSl (fVar 0) (fun _ => .ok none) (fun r => ((fVar 5) r).bnd intOf)) (fSl (fVar 0) (fun r => ((fVar 3) r).bnd intOf) (fun _ => .ok none)))) fNx)
    (fRet (fBin ixD (fL (fLst (fCons (fBin addD (fVar 0) (fK (.str (Str.ofString " ")))) (fCons (fBin addD (fK (.str (Str.ofString " "))) (fVar 0)) (fCons (fBin addD (fSl (fVar 0) (fun r => ((fVar 3) r).bnd intOf) (fun _ => .ok none)) (fSl (fVar 0) (fun _ => .ok none) (fun r => ((fVar 3) r).bnd intOf))) (fCons (fK (.str (Str.ofString ""))) (fCons (fBin addD (fVar 0) (fVar 0)) fNil))))))) (fBin modI (fVar 1) (fK (.int 5))))))))))))))
noncomputable def F_u_law_spoilt : List D → R D := runF B_u_law_spoilt 7
def m_u_law_low : Rho → Nat := mAbs 3
noncomputable def B_u_law_low : Rho → R Fl := (fSeq (fPar 2 3 (fCons (fCallB absD (fConsB (fVar 0) fNil)) (fCons (fCallB absD (fConsB (fVar 1) fNil)) fNil)))
    (fSeq (fWh m_u_law_low (fTest (fBin neD (fVar 3) (fK (.int 0)))) (fPar 2 3 (fCons (fVar 3) (fCons (fBin modI (fVar 2) (fVar 3)) fNil))))
    (fRet (fIf (fTest (fBin gtI (fVar 1) (fK (.int 0)))) (fTup (fCons (fBin fdivI (fVar 0) (fVar 2)) (fCons (fBin fdivI (fVar 1) (fVar 2)) fNil))) (fTup (fCons (fBin subI (fK (.int 0)) (fBin fdivI (fVar 0) (fVar 2))) (fCons (fBin subI (fK (.int 0)) (fBin fdivI (fVar 1) (fVar 2))) fNil)))))))
noncomputable def F_u_law_low : List D → R D := runF B_u_law_low 4
def m_greatest_in : Rho → Nat := mAbs 1
noncomputable def B_greatest_in : Rho → R Fl := (fSeq (fWh m_greatest_in (fTest (fBin neD (fVar 1) (fK (.int 0)))) (fPar 0 1 (fCons (fVar 1) (fCons (fBin modI (fVar 0) (fVar 1)) fNil))))
    (fRet (fCallB absD (fConsB (fVar 0) fNil))))
noncomputable def F_greatest_in : List D → R D := runF B_greatest_in 2
noncomputable def B_is_whole : Rho → R Fl := (fRet (fAndV (fIsi ["int"] (fVar 0)) (fAndV (fNotV (fIsi ["bool"] (fVar 0))) (fChain leD leD (fVar 1) (fVar 0) (fVar 2)))))
noncomputable def F_is_whole : List D → R D := runF B_is_whole 3
noncomputable def B_u_law_cell : Rho → R Fl := (fSeq (fIfS (fTest (fBin ltD (fVar 1) (fCallB lenD (fConsB (fVar 0) fNil)))) (fRet (fBin ixD (fVar 0) (fVar 1))) fNx)
    (fSeq (fIfS (fTest (fBin eqD (fVar 0) (fL (fLst fNil)))) (fRet (fK (.int 0))) fNx)
    (fRet (fBin addD (fBin mulD (fBin ixD (fVar 0) (fBin modI (fVar 1) (fCallB lenD (fConsB (fVar 0) fNil)))) (fK (.int 31))) (fVar 1)))))
noncomputable def F_u_law_cell : List D → R D := runF B_u_law_cell 2
noncomputable def B_is_stand : Rho → R Fl := (fSeq (fIfS (fOr (fNot (fTest (fIsi ["tuple"] (fVar 0)))) (fNot (fTest (fChain leD leD (fK (.int 1)) (fCallB lenD (fConsB (fVar 0) fNil)) (fK (.int 4)))))) (fRet (fK (.bl false))) fNx)
    (fRet (fCallB (allD fun bs => bs.all id) (fConsB (fL (fLc [1] (.nm 1) (fIt true (fVar 0)) (fun _ => .ok true) (fCall 3 F_is_whole (fCons (fVar 1) (fCons (fBin subI (fK (.int 0)) (fK d_FARTHEST)) (fCons (fK d_FARTHEST) fNil)))))) fNil))))
noncomputable def F_is_stand : List D → R D := runF B_is_stand 2
noncomputable def B_u_law_pick : Rho → R Fl := (fSeq (fAsg (.nm 3) (fBin modI (fBin mulD (fBin addD (fCall 2 F_u_law_cell (fCons (fVar 0) (fCons (fVar 1) fNil))) (fBin mulD (fK (.int 6151)) (fBin addD (fVar 1) (fK (.int 1))))) (fK (.int 40692))) (fK (.int 2147483399))))
    (fRet (fBin modI (fBin modI (fBin addD (fBin mulD (fVar 3) (fVar 3)) (fBin fdivI (fVar 3) (fK (.int 31)))) (fK (.int 2147483629))) (fVar 2))))
noncomputable def F_u_law_pick : List D → R D := runF B_u_law_pick 4
noncomputable def B_u_law_sum : Rho → R Fl := (fSeq (fAsg (.tp [(.nm 2), (.nm 3)]) (fTup (fCons (fK (.int 0)) (fCons (fK (.int 1)) fNil))))
    (fSeq (fFor (.nm 1) (fIt false (fVar 0)) (fPar 2 3 (fCons (fBin addD (fBin mulD (fVar 2) (fBin ixD (fVar 1) (fK (.int 1)))) (fBin mulD (fBin ixD (fVar 1) (fK (.int 0))) (fVar 3))) (fCons (fBin mulD (fVar 3) (fBin ixD (fVar 1) (fK (.int 1)))) fNil))))
    (fRet (fCall 2 F_u_law_low (fCons (fVar 2) (fCons (fVar 3) fNil))))))
noncomputable def F_u_law_sum : List D → R D := runF B_u_law_sum 4
noncomputable def B_share : Rho → R Fl := (fSeq (fAsg (.nm 2) (fCall 2 F_greatest_in (fCons (fVar 0) (fCons (fVar 1) fNil))))
    (fRet (fIf (fTest (fBin gtI (fVar 1) (fK (.int 0)))) (fTup (fCons (fBin fdivI (fVar 0) (fVar 2)) (fCons (fBin fdivI (fVar 1) (fVar 2)) fNil))) (fTup (fCons (fBin subI (fK (.int 0)) (fBin fdivI (fVar 0) (fVar 2))) (fCons (fBin subI (fK (.int 0)) (fBin fdivI (fVar 1) (fVar 2))) fNil))))))
noncomputable def F_share : List D → R D := runF B_share 3
noncomputable def B_has_name : Rho → R Fl := (fRet (fAndV (fCall 1 F_is_name (fCons (fVar 1) fNil)) (fBin (inG false) (fVar 1) (fL (fLc [2] (.nm 2) (fIt true (fVar 0)) (fun _ => .ok true) (fBin ixD (fVar 2) (fK (.int 0))))))))
noncomputable def F_has_name : List D → R D := runF B_has_name 3
noncomputable def B_is_fraction : Rho → R Fl := (fSeq (fIfS (fOr (fNot (fTest (fIsi ["tuple"] (fVar 0)))) (fTest (fBin neD (fCallB lenD (fConsB (fVar 0) fNil)) (fK (.int 2))))) (fRet (fK (.bl false))) fNx)
    (fSeq (fIfS (fNot (fTest (fCallB (allD fun bs => bs.all id) (fConsB (fL (fLc [1] (.nm 1) (fIt true (fVar 0)) (fun _ => .ok true) (fAndV (fIsi ["int"] (fVar 1)) (fNotV (fIsi ["bool"] (fVar 1)))))) fNil)))) (fRet (fK (.bl false))) fNx)
    (fRet (fAndV (fBin gtI (fBin ixD (fVar 0) (fK (.int 1))) (fK (.int 0))) (fBin eqD (fCall 2 F_greatest_in (fCons (fBin ixD (fVar 0) (fK (.int 0))) (fCons (fBin ixD (fVar 0) (fK (.int 1))) fNil))) (fK (.int 1)))))))
noncomputable def F_is_fraction : List D → R D := runF B_is_fraction 2
noncomputable def B_u_law_shares : Rho → R Fl := (fSeq (fAsg (.nm 3) (fL (fLc [5, 6] (.tp [(.nm 5), (.nm 6)]) (fEnum true (fConsB (fCall 1 F_u_law_names (fCons (fVar 2) fNil)) fNil)) (fun _ => .ok true) (fTup (fCons (fVar 6) (fCons (fCall 3 F_u_law_pick (fCons (fVar 0) (fCons (fBin addD (fVar 1) (fVar 5)) (fCons (fK (.int 5)) fNil)))) fNil))))))
    (fSeq (fAsg (.nm 4) (fCallB sumD (fConsB (fL (fLc [6, 7] (.tp [(.nm 6), (.nm 7)]) (fIt true (fVar 3)) (fun _ => .ok true) (fVar 7))) fNil)))
    (fSeq (fIfS (fTest (fBin eqD (fVar 4) (fK (.int 0)))) (fRet (fL (fLst (fCons (fTup (fCons (fBin ixD (fCall 1 F_u_law_names (fCons (fVar 2) fNil)) (fCall 3 F_u_law_pick (fCons (fVar 0) (fCons (fBin addD (fVar 1) (fK (.int 8))) (fCons (fCallB lenD (fConsB (fVar 2) fNil)) fNil))))) (fCons (fTup (fCons (fK (.int 1)) (fCons (fK (.int 1)) fNil))) fNil))) fNil)))) fNx)
    (fRet (fL (fLc [6, 7] (.tp [(.nm 6), (.nm 7)]) (fIt true (fVar 3)) (fTest (fBin gtI (fVar 7) (fK (.int 0)))) (fTup (fCons (fVar 6) (fCons (fCall 2 F_u_law_low (fCons (fVar 7) (fCons (fVar 4) fNil))) fNil)))))))))
noncomputable def F_u_law_shares : List D → R D := runF B_u_law_shares 8
noncomputable def B_u_law_gathered : Rho → R Fl := (fSeq (fAsgN 1 (fLst fNil))
    (fSeq (fFor (.nm 2) (fIt false (fL (fSortSet (fL (fLc [4, 5] (.tp [(.nm 4), (.nm 5)]) (fIt true (fVar 0)) (fun _ => .ok true) (fVar 4)))))) (fSeq (fAsg (.nm 3) (fCall 1 F_u_law_sum (fCons (fL (fLc [4, 5] (.tp [(.nm 4), (.nm 5)]) (fIt true (fVar 0)) (fTest (fBin eqD (fVar 4) (fVar 2))) (fVar 5))) fNil)))
    (fExt 1 (fIf (fTest (fBin neD (fVar 3) (fTup (fCons (fK (.int 0)) (fCons (fK (.int 1)) fNil))))) (fL (fLst (fCons (fTup (fCons (fVar 2) (fCons (fVar 3) fNil))) fNil))) (fL (fLst fNil))))))
    (fRet (fVar 1))))
noncomputable def F_u_law_gathered : List D → R D := runF B_u_law_gathered 6
noncomputable def B_is_book : Rho → R Fl := (fSeq (fIfS (fOr (fNot (fTest (fIsi ["tuple"] (fVar 0)))) (fNot (fTest (fChain leD leD (fK (.int 1)) (fCallB lenD (fConsB (fVar 0) fNil)) (fK (.int 6)))))) (fRet (fK (.bl false))) fNx)
    (fSeq (fIfS (fNot (fTest (fCallB (allD fun bs => bs.all id) (fConsB (fL (fLc [1] (.nm 1) (fIt true (fVar 0)) (fun _ => .ok true) (fAndV (fIsi ["tuple"] (fVar 1)) (fAndV (fBin eqD (fCallB lenD (fConsB (fVar 1) fNil)) (fK (.int 2))) (fAndV (fCall 1 F_is_name (fCons (fBin ixD (fVar 1) (fK (.int 0))) fNil)) (fCall 1 F_is_stand (fCons (fBin ixD (fVar 1) (fK (.int 1))) fNil))))))) fNil)))) (fRet (fK (.bl false))) fNx)
    (fSeq (fIfS (fTest (fCallB (allD fun bs => bs.any id) (fConsB (fL (fLc [1] (.nm 1) (fIt true (fVar 0)) (fun _ => .ok true) (fBin neD (fCallB lenD (fConsB (fBin ixD (fVar 1) (fK (.int 1))) fNil)) (fCallB lenD (fConsB (fBin ixD (fBin ixD (fVar 0) (fK (.int 0))) (fK (.int 1))) fNil))))) fNil))) (fRet (fK (.bl false))) fNx)
    (fRet (fCallB (allD fun bs => bs.all id) (fConsB (fL (fLc [1, 2] (.tp [(.nm 1), (.nm 2)]) (fZip true (fConsB (fVar 0) (fConsB (fSl (fVar 0) (fun r => ((fK (.int 1)) r).bnd intOf) (fun _ => .ok none)) fNil))) (fun _ => .ok true) (fBin ltD (fBin ixD (fVar 1) (fK (.int 0))) (fBin ixD (fVar 2) (fK (.int 0)))))) fNil))))))
noncomputable def F_is_book : List D → R D := runF B_is_book 3
noncomputable def B_u_law_book : Rho → R Fl := (fSeq (fAsg (.nm 2) (fBin addD (fK (.int 1)) (fCall 3 F_u_law_pick (fCons (fVar 0) (fCons (fVar 1) (fCons (fK (.int 4)) fNil))))))
    (fSeq (fAsg (.nm 3) (fL (fLst (fCons (fK (.str (Str.ofString "a"))) (fCons (fK (.str (Str.ofString "idle"))) (fCons (fK (.str (Str.ofString "run"))) (fCons (fK (.str (Str.ofString "walk"))) (fCons (fK (.str (Str.ofString "z"))) (fCons (fK (.str (Str.ofString "zeal"))) fNil)))))))))
    (fSeq (fAsg (.nm 4) (fL (fLc [6, 7] (.tp [(.nm 6), (.nm 7)]) (fEnum true (fConsB (fVar 3) fNil)) (fTest (fBin gtI (fCall 3 F_u_law_pick (fCons (fVar 0) (fCons (fBin addD (fBin addD (fVar 1) (fK (.int 1))) (fVar 6)) (fCons (fK (.int 3)) fNil)))) (fK (.int 0)))) (fVar 7))))
    (fSeq (fAsgN 5 (fLst fNil))
    (fSeq (fFor (.tp [(.nm 6), (.nm 7)]) (fEnum false (fConsB (fIf (fTest (fBin neD (fVar 4) (fL (fLst fNil)))) (fVar 4) (fL (fLst (fCons (fK (.str (Str.ofString "sole"))) fNil)))) fNil)) (fSeq (fAsg (.nm 8) (fBin ixD (fL (fLst (fCons (fK (.int 3)) (fCons (fK (.int 20)) (fCons (fK (.int 1000)) fNil))))) (fCall 3 F_u_law_pick (fCons (fVar 0) (fCons (fBin addD (fBin addD (fVar 1) (fK (.int 10))) (fVar 6)) (fCons (fK (.int 3)) fNil))))))
    (fSeq (fAsg (.nm 9) (fBin addD (fBin addD (fVar 1) (fK (.int 20))) (fBin mulD (fK (.int 4)) (fVar 6))))
    (fApp 5 (fTup (fCons (fVar 7) (fCons (fCallB tupleD (fConsB (fL (fLc [10] (.nm 10) (fRg rangeD1 (fCons (fVar 2) fNil)) (fun _ => .ok true) (fBin addD (fBin subI (fCall 3 F_u_law_pick (fCons (fVar 0) (fCons (fBin addD (fVar 9) (fVar 10)) (fCons (fBin subI (fBin mulD (fK (.int 2)) (fVar 8)) (fK (.int 1))) fNil)))) (fVar 8)) (fK (.int 1))))) fNil)) fNil)))))))
    (fRet (fCallB tupleD (fConsB (fVar 5) fNil))))))))
noncomputable def F_u_law_book : List D → R D := runF B_u_law_book 11
noncomputable def B_plus : Rho → R Fl := (fRet (fCall 2 F_share (fCons (fBin addD (fBin mulD (fBin ixD (fVar 0) (fK (.int 0))) (fBin ixD (fVar 1) (fK (.int 1)))) (fBin mulD (fBin ixD (fVar 1) (fK (.int 0))) (fBin ixD (fVar 0) (fK (.int 1))))) (fCons (fBin mulD (fBin ixD (fVar 0) (fK (.int 1))) (fBin ixD (fVar 1) (fK (.int 1)))) fNil))))
noncomputable def F_plus : List D → R D := runF B_plus 2
noncomputable def B_u_law_worths : Rho → R Fl := (fSeq (fun r => if decide ([3, 4].length ≤ 100) then fParX [3, 4] (fConsI (fCallB dictD (fConsB (fVar 0) fNil)) (fConsO (fLst fNil) (fun _ => .ok []))) r else .stuck)
    (fSeq (fFor (.nm 2) (fRg rangeD1 (fCons (fCallB lenD (fConsB (fBin ixD (fBin ixD (fWk (fVar 0)) (fK (.int 0))) (fK (.int 1))) fNil)) fNil)) (fApp 4 (fCall 1 F_u_law_sum (fCons (fL (fLc [5, 6] (.tp [(.nm 5), (.nm 6)]) (fIt true (fVar 1)) (fun _ => .ok true) (fTup (fCons (fBin mulD (fBin ixD (fVar 6) (fK (.int 0))) (fBin ixD (fDGet (fDV 3) (fVar 5)) (fVar 2))) (fCons (fBin ixD (fVar 6) (fK (.int 1))) fNil))))) fNil))))
    (fRet (fCallB tupleD (fConsB (fVar 4) fNil)))))
noncomputable def F_u_law_worths : List D → R D := runF B_u_law_worths 7
noncomputable def B_u_law_led : Rho → R Fl := (fSeq (fAsg (.nm 3) (fTup (fCons (fBin subI (fBin ixD (fVar 2) (fK (.int 1))) (fBin ixD (fVar 2) (fK (.int 0)))) (fCons (fBin ixD (fVar 2) (fK (.int 1))) fNil))))
    (fSeq (fAsg (.nm 4) (fL (fLc [5, 6] (.tp [(.nm 5), (.nm 6)]) (fIt true (fVar 0)) (fun _ => .ok true) (fTup (fCons (fVar 5) (fCons (fCall 2 F_u_law_low (fCons (fBin mulD (fBin ixD (fVar 6) (fK (.int 0))) (fBin ixD (fVar 3) (fK (.int 0)))) (fCons (fBin mulD (fBin ixD (fVar 6) (fK (.int 1))) (fBin ixD (fVar 3) (fK (.int 1)))) fNil))) fNil))))))
    (fRet (fCall 1 F_u_law_gathered (fCons (fBin addD (fVar 4) (fL (fLc [5, 6] (.tp [(.nm 5), (.nm 6)]) (fIt true (fVar 1)) (fun _ => .ok true) (fTup (fCons (fVar 5) (fCons (fCall 2 F_u_law_low (fCons (fBin mulD (fBin ixD (fVar 6) (fK (.int 0))) (fBin ixD (fVar 2) (fK (.int 0)))) (fCons (fBin mulD (fBin ixD (fVar 6) (fK (.int 1))) (fBin ixD (fVar 2) (fK (.int 1)))) fNil))) fNil)))))) fNil)))))
noncomputable def F_u_law_led : List D → R D := runF B_u_law_led 7
noncomputable def B_summed : Rho → R Fl := (fSeq (fAsg (.nm 1) (fK d_NOUGHT))
    (fSeq (fFor (.nm 2) (fIt false (fVar 0)) (fAsg (.nm 1) (fCall 2 F_plus (fCons (fVar 1) (fCons (fVar 2) fNil)))))
    (fRet (fVar 1))))
noncomputable def F_summed : List D → R D := runF B_summed 3
noncomputable def B_look_book : Rho → R Fl := (fIfS (fNot (fTest (fCall 1 F_is_book (fCons (fVar 0) fNil)))) (fun _ => .err (Str.ofString "NoBook")) fNx)
noncomputable def F_look_book : List D → R D := runF B_look_book 1
noncomputable def B_are_shares_in : Rho → R Fl := (fSeq (fIfS (fNot (fTest (fIsi ["list", "tuple"] (fVar 1)))) (fRet (fK (.bl false))) fNx)
    (fSeq (fFor (.nm 2) (fIt false (fVar 1)) (fSeq (fIfS (fOr (fNot (fTest (fIsi ["tuple"] (fVar 2)))) (fOr (fTest (fBin neD (fCallB lenD (fConsB (fVar 2) fNil)) (fK (.int 2)))) (fNot (fTest (fCall 2 F_has_name (fCons (fVar 0) (fCons (fBin ixD (fVar 2) (fK (.int 0))) fNil))))))) (fRet (fK (.bl false))) fNx)
    (fIfS (fOr (fNot (fTest (fCall 1 F_is_fraction (fCons (fBin ixD (fVar 2) (fK (.int 1))) fNil)))) (fTest (fBin leD (fBin ixD (fBin ixD (fVar 2) (fK (.int 1))) (fK (.int 0))) (fK (.int 0))))) (fRet (fK (.bl false))) fNx)))
    (fSeq (fAsg (.nm 3) (fL (fLc [2] (.nm 2) (fIt true (fVar 1)) (fun _ => .ok true) (fBin ixD (fVar 2) (fK (.int 0))))))
    (fRet (fAndV (fBin eqD (fVar 3) (fL (fSortSet (fVar 3)))) (fBin eqD (fCall 1 F_summed (fCons (fL (fLc [2] (.nm 2) (fIt true (fVar 1)) (fun _ => .ok true) (fBin ixD (fVar 2) (fK (.int 1))))) fNil)) (fK d_ONE)))))))
noncomputable def F_are_shares_in : List D → R D := runF B_are_shares_in 4
noncomputable def B_look_shares : Rho → R Fl := (fIfS (fNot (fTest (fCall 2 F_are_shares_in (fCons (fVar 0) (fCons (fVar 1) fNil))))) (fun _ => .err (Str.ofString "NoShares")) fNx)
noncomputable def F_look_shares : List D → R D := runF B_look_shares 2
end PL.G
end
section
namespace PL
open PySem PySem.Spec PyProof.Rows L2
noncomputable def strB (i : Int) : Bool := okB (i.natAbs.log2 < 1920)
noncomputable def strD (r : Rho) : List D → R D
  | [.int i] => if strB i then .ok (.str (toString i)) else .stuck
  | _ => .stuck
theorem cs_strD {K : PySem.W.Frag} : CallS K (fun xs H Q => ∃ i, xs = [.int i] ∧ i.natAbs.log2 < 1920 ∧ Q (.str (toString i)) H) strD := by
  intro mg E T s H xs ds Q R rs h
  cases rs with
  | nil => exact h.elim
  | @cons v vs d ds rv rr =>
    cases rr with
    | cons _ _ => cases d <;> exact h.elim
    | nil =>
      cases d with
      | int i =>
        cases (show Rp K T.G v (.int i) from rv)
        have h2 : KE K mg E T s H (fun d G' H' => ∀ v, RpE K G' s v d → Q v H') (if strB i then .ok (.str (toString i)) else .stuck) := h
        cases e : strB i with
        | false => rw [e] at h2; exact h2.elim
        | true =>
          rw [e] at h2
          exact ⟨i, rfl, okB_iff.mp e, fin (.str _) h2 R (Rp.str _)⟩
      | _ => exact h.elim
def intTD (r : Rho) : List D → R D
  | [.str a] => (match PySem.intText? a with
    | some n => if decide (a.length ≤ 640) then .ok (.int n) else .stuck
    | none => .stuck)
  | _ => .stuck
theorem cs_intTD {K : PySem.W.Frag} : CallS K (fun xs H Q => ∃ a n, xs = [.str a] ∧ PySem.intText? a = some n ∧ a.length ≤ 640 ∧ Q (.int n) H) intTD := by
  intro mg E T s H xs ds Q R rs h
  cases rs with
  | nil => exact h.elim
  | @cons v vs d ds rv rr =>
    cases rr with
    | cons _ _ => cases d <;> exact h.elim
    | nil =>
      cases d with
      | str a =>
        cases (show Rp K T.G v (.str a) from rv)
        have h2 : KE K mg E T s H (fun d G' H' => ∀ v, RpE K G' s v d → Q v H') (match PySem.intText? a with
          | some n => if decide (a.length ≤ 640) then .ok (.int n) else .stuck
          | none => .stuck) := h
        cases e : PySem.intText? a with
        | none => rw [e] at h2; exact h2.elim
        | some n =>
          rw [e] at h2
          simp only at h2
          cases e2 : decide (a.length ≤ 640) with
          | false => rw [e2] at h2; exact h2.elim
          | true =>
            rw [e2] at h2
            exact ⟨a, n, rfl, e, of_decide_eq_true e2, fin (.int _) h2 R (Rp.int _)⟩
      | _ => exact h.elim
def fJoin (fa fb : Rho → R D) (r : Rho) : R D := (fa r).bnd fun a => match a with
  | .str a => (fb r).bnd fun d => (match viewL r d with
    | some ds => (match strsOf ds with
      | some ys => if decide ((ys.map (·.length)).sum + ys.length * a.length ≤ 16777216) then .ok (.str (Txt.join a ys)) else .stuck
      | none => .stuck)
    | none => .stuck)
  | _ => .stuck
def fSplit (fa fb : Rho → R D) (r : Rho) : R (List D) := (fa r).bnd fun a => match a with
  | .str a => (fb r).bnd fun b => (match b with
    | .str b => if decide ((b.length == 0) = false ∧ a.length + 2 ≤ sizeLine) then .ok ((Txt.split a b).map .str) else .stuck
    | _ => .stuck)
  | _ => .stuck
section
variable {X : Cx} {E : WX} {a e : Expr} {fa fe : Rho → R D} {apos cpos : Pos}
theorem ev_join (ha : EV X E a fa) (he : EV X E e fe) (hbase : attributeBase a "join" X.env (eval a X.env) = eval a X.env := by rfl)
    (hfew : ((backTo cpos (starEach [e] X.env)).all (fun x => !x.1) && (backToKw cpos (keywordEach [] X.env)).all (fun x => x.1.isSome)
      && decide ([e].length + ([] : List Keyword).length + (if ([] : List Keyword).isEmpty then 0 else 1) < 30)) = true := by rfl)
    (hline : (apos.endLine == cpos.line) = true := by rfl) (hs : starEach [e] X.env = (false, eval e X.env) :: starEach [] X.env := by rfl) (hplain : (backTo cpos (starEach [] X.env)).any (·.1) = false := by rfl) :
    EV X E (.Call (.Attribute a "join" apos) [e] [] cpos) (fJoin fa fe) :=
  pe_imp (pe_bm PySem.F.plainAttrs_str PySem.F.slot_str_join PySem.F.type_str_join mt_join ha (pa_cons he pa_nil hs) hbase hfew hline hs hplain) fun s H Q ⟨T, R, h⟩ => ⟨T, R, KE.bnd h fun d G1 H1 _ eg eh R1 h1 v rv => by
    cases d with
    | str a =>
      cases (show Rp X.K G1 v (.str a) from rv)
      refine ⟨rfl, { T with G := G1 }, R1, KE.bnd (T := { T with G := G1 }) h1 fun d2 G2 H2 _ eg2 eh2 R2 h2 v2 rv2 => ?_⟩
      cases e1 : viewL T.r d2 with
      | none => rw [e1] at h2; exact h2.elim
      | some ds =>
        rw [e1] at h2
        simp only at h2
        cases e2 : strsOf ds with
        | none => rw [e2] at h2; exact h2.elim
        | some ys =>
          rw [e2] at h2
          simp only at h2
          cases e3 : decide ((ys.map (·.length)).sum + ys.length * a.length ≤ 16777216) with
          | false => rw [e3] at h2; exact h2.elim
          | true =>
            rw [e3] at h2
            obtain ⟨q, xs, rfl, hq, hr⟩ := viewL_ok (T := { T with G := G2 }) R2 rv2 e1
            cases strsOf_ok e2 hr
            exact ⟨a, q, ys, rfl, rfl, .inl (SqL.of hq), of_decide_eq_true e3, fin (T := { T with G := G2 }) (.str _) h2 R2 (Rp.str _)⟩
    | _ => exact h1.elim⟩
theorem en_split (ha : EV X E a fa) (he : EV X E e fe) (hbase : attributeBase a "split" X.env (eval a X.env) = eval a X.env := by rfl)
    (hfew : ((backTo cpos (starEach [e] X.env)).all (fun x => !x.1) && (backToKw cpos (keywordEach [] X.env)).all (fun x => x.1.isSome)
      && decide ([e].length + ([] : List Keyword).length + (if ([] : List Keyword).isEmpty then 0 else 1) < 30)) = true := by rfl)
    (hline : (apos.endLine == cpos.line) = true := by rfl) (hs : starEach [e] X.env = (false, eval e X.env) :: starEach [] X.env := by rfl) (hplain : (backTo cpos (starEach [] X.env)).any (·.1) = false := by rfl) :
    EN X E (.Call (.Attribute a "split" apos) [e] [] cpos) (fSplit fa fe) :=
  pe_imp (pe_bm PySem.F.plainAttrs_str PySem.F.slot_str_split PySem.F.type_str_split mt_split ha (pa_cons he pa_nil hs) hbase hfew hline hs hplain) fun s H Q ⟨T, R, h⟩ => ⟨T, R, KE.bnd h fun d G1 H1 _ eg eh R1 h1 v rv => by
    cases d with
    | str a =>
      cases (show Rp X.K G1 v (.str a) from rv)
      refine ⟨rfl, { T with G := G1 }, R1, KE.bnd (T := { T with G := G1 }) h1 fun d2 G2 H2 _ eg2 eh2 R2 h2 v2 rv2 => ?_⟩
      cases d2 with
      | str b =>
        cases (show Rp X.K G2 v2 (.str b) from rv2)
        simp only at h2
        cases e3 : decide ((b.length == 0) = false ∧ a.length + 2 ≤ sizeLine) with
        | false => rw [e3] at h2; exact h2.elim
        | true =>
          rw [e3] at h2
          have e4 := of_decide_eq_true e3
          refine ⟨a, b, rfl, rfl, e4.1, e4.2, fun l hl => ?_⟩
          exact KE.lay (T := { T with G := G2 }) h2 R2 hl l _ (eh.free (eh2.free hl)) upd_same (R2.gf _ hl) (rpa_strs _)
      | _ => exact h2.elim
    | _ => exact h1.elim⟩
end
end PL
end
section
namespace PL
open PySem PySem.Spec PyProof.Rows L2
def putFD (f : Str) (d : D) : List (Str × D) → List (Str × D)
  | [] => [(f, d)]
  | (g, x) :: r => if g = f then (g, d) :: r else (g, x) :: putFD f d r
section
variable {K : PySem.W.Frag} {G : Hp}
theorem RpF.length : ∀ {v : List (Str × V)} {d : List (Str × D)}, RpF K G v d → v.length = d.length
  | _, _, .nil => rfl
  | _, _, .cons _ r => by rw [List.length_cons, List.length_cons, r.length]
theorem RpF.put {f : Str} {u : V} {x : D} (hx : RpO K G u x) : ∀ {v : List (Str × V)} {d : List (Str × D)}, RpF K G v d → RpF K G (putF f u v) (putFD f x d)
  | _, _, .nil => .cons hx .nil
  | _, _, .cons (f := g) h0 r => by
    unfold putF putFD
    by_cases e : g = f
    · rw [if_pos e, if_pos e]; exact .cons hx r
    · rw [if_neg e, if_neg e]; exact .cons h0 (r.put hx)
end
section
variable {X : Cx} {E : WX} {a : Expr} {fa : Rho → R D} {pos : Pos} {c f : Str}
end
theorem RpE.ob {K : PySem.W.Frag} {G : Hp} {s : St} {v : V} {d : D} (h : ∀ i, d ≠ .own i) (r : RpE K G s v d) : RpO K G v d := by
  cases d with
  | own i => exact absurd rfl (h i)
  | obj i => exact r
  | tpo i => exact r
  | _ => exact .pure r
section
variable {X : Cx} {E : WX} {a : Expr} {es : List Expr} {fa : Rho → R D} {fs : Rho → R (List D)}
end
def PostR (K : PySem.W.Frag) (G H : Hp) (d : D) (Q : VK) : Prop := ∀ v G' H', Ex G G' → Ex H H' → Ex (um G') H' → Nw G G' H → Rp K G' v d → Q v H'
def spR (K : PySem.W.Frag) (mg : Str → Option Value) (n : Nat) (F : List Ob → List D → R D) : Sp := fun vs H Q E => ∃ G ds os, Ex (um G) H ∧ (∀ a, H a = none → G a = none) ∧ StOk K H G H false os ∧ RpOA K G vs ds ∧ ds.length = n ∧ (match F os ds with
  | .ok d => PostR K G H d Q
  | .err c => ∀ H', Ex H H' → E (clsV mg c) none H'
  | .stuck => False)
end PL
end
section
namespace PL
open PySem PySem.Spec PyProof.Rows L2
section
variable {X : Cx} {CX : CXT} {k : Nat} {f C : Addr} {fd : FuncData} {ps : List Str} {sp : Sp} {E : St → XK} {x m : Str} {p pos apos : Pos} {e o : Expr} {es : List Expr} {ta : TE} {t : TA}
end
structure FnRf (P : Program) (w : World) (K : PySem.W.Frag) (mg : Str → Option Value) (base : Heap) (k : Nat) (x : Str) (n : Nat) (F : List Ob → List D → R D) : Prop where
  ex : ∃ f fd ps, mg x = some (.ref f) ∧ PySem.W.keepIn K (.ref f) = true ∧ Binds K fd ps [] ∧ FnOk P w K mg base (L2.CX P w) k f fd ps (spR K mg n F)
structure FnRm (P : Program) (w : World) (K : PySem.W.Frag) (mg : Str → Option Value) (base : Heap) (k : Nat) (c m : Str) (n : Nat) (F : List Ob → List D → R D) : Prop where
  ex : ∃ f fd ps, Meth K (He.ga K c) m f ∧ Binds K fd ps [] ∧ FnOk P w K mg base (L2.CX P w) k f fd ps (spR K mg n F)
def hasSt (r : Rho) : Bool := match r.getLast? with
  | some (.st _ _) => true
  | _ => false
theorem hasSt_ok {r : Rho} (h : hasSt r = true) : r.getLast? ≠ none ∧ ∃ w os, r.getLast? = some (.st w os) := by
  unfold hasSt at h
  cases e : r.getLast? with
  | none => rw [e] at h; cases h
  | some x =>
    rw [e] at h
    cases x with
    | st w os => exact ⟨fun z => (by cases z), w, os, rfl⟩
    | _ => cases h
section
variable {X : Cx} {E : WX} {o e : Expr} {fo : Rho → R D} {es : List Expr} {fs : Rho → R (List D)} {x c m : Str} {p apos pos : Pos} {k kx n : Nat} {F : List Ob → List D → R D}
end
section
variable {P : Program} {w : World} {K : PySem.W.Frag} {mg : Str → Option Value} {base : Heap}
end
end PL
end
section
namespace PL
open PySem PySem.Spec PyProof.Rows L2
def hid (G H : Hp) : Hp := fun a => match G a with
  | some o => if isMk o then none else H a
  | none => H a
theorem hid_is {G H : Hp} {a : Addr} {o : HO} (h : hid G H a = some o) : H a = some o ∧ ∀ u, G a = some u → isMk u = false := by
  unfold hid at h
  cases e : G a with
  | none => rw [e] at h; exact ⟨h, fun u z => by cases z⟩
  | some u =>
    rw [e] at h
    cases m : isMk u with
    | true => simp [m] at h
    | false =>
      simp [m] at h
      refine ⟨h, fun u' z => ?_⟩
      cases z
      exact m
theorem hid_none {G H : Hp} {a : Addr} (h : H a = none) : hid G H a = none := by
  unfold hid
  cases e : G a with
  | none => exact h
  | some u =>
    show (if isMk u then none else H a) = none
    split
    · rfl
    · exact h
theorem hid_mk {G H : Hp} {a : Addr} {k : Nat} (h : G a = some (mrk k)) : hid G H a = none := by
  unfold hid
  rw [h]
  rfl
theorem hid_at {G H : Hp} {a : Addr} {o : HO} (h : H a = some o) (n : ∀ u, G a = some u → isMk u = false) : hid G H a = some o := by
  unfold hid
  cases e : G a with
  | none => exact h
  | some u =>
    show (if isMk u then none else H a) = some o
    rw [n u e]
    exact h
def setSt (r : Rho) (os : List Ob) : Rho := r.set (r.length - 1) (.st true os)
theorem last_at {r : Rho} (h : hasSt r = true) : ∃ w os, r[r.length - 1]? = some (.st w os) ∧ stOf r = os := by
  obtain ⟨_, w, os, e⟩ := hasSt_ok h
  refine ⟨w, os, ?_, by unfold stOf; rw [e]⟩
  rw [← List.getLast?_eq_getElem?]
  exact e
section
variable {K : PySem.W.Frag} {G0 H0 G H G' H' : Hp} {r : Rho} {s : St}
theorem Rel.after (R : Rel K G0 H0 r s G H) (hs : hasSt r = true) (eg : Ex G G') (fr : ∀ a o, hid G H a = some o → H' a = some o) (gh : Ex (um G') H') (gf : ∀ a, H' a = none → G' a = none) (nw : ∀ a o, G' a = some o → G a = none → H a = none) {os : List Ob} {X0 : Hp} (S : StOk K X0 G' H' false os) :
    Rel K G0 (hid G H0) (setSt r os) s G' H' := by
  obtain ⟨w, os0, el, _⟩ := last_at hs
  have keep : ∀ a o, H a = some o → G a = none → G' a = none ∧ H' a = some o := fun a o h1 h2 => by
    refine ⟨?_, fr a o (hid_at h1 fun u z => by rw [h2] at z; cases z)⟩
    cases e : G' a with
    | none => rfl
    | some u =>
      have z := nw a u e h2
      rw [h1] at z
      cases z
  have ge : ∀ i x, i ≠ r.length - 1 → (setSt r os)[i]? = some x → r[i]? = some x := fun i x ne e => by
    unfold setSt at e
    rwa [List.getElem?_set_ne (Ne.symm ne)] at e
  have hl : r.length - 1 < r.length := by
    have := (List.getElem?_eq_some_iff.mp el).1
    exact this
  have at_last : (setSt r os)[r.length - 1]? = some (.st true os) := by
    unfold setSt
    rw [List.getElem?_set_self hl]
  have ow : ∀ i a, OwnAt (setSt r os) s i a → OwnAt r s i a := fun i a ⟨q1, q2⟩ => by
    by_cases e : i = r.length - 1
    · subst e
      rw [at_last] at q1
      exact q1.elim
    · cases ex : (setSt r os)[i]? with
      | none => rw [ex] at q1; exact q1.elim
      | some x =>
        rw [ex] at q1
        exact ⟨by rw [ge i x e ex]; exact q1, q2⟩
  refine ⟨R.gg.trans eg, fun a o q => ?_, gh, gf, fun a o q n => ?_, fun i x hx => ?_, fun i j a h1 h2 => R.ds i j a (ow i a h1) (ow j a h2), ⟨?_, ?_, fun i x hx => ?_⟩⟩
  · obtain ⟨q1, q2⟩ := hid_is q
    exact fr a o (hid_at (R.hh _ _ q1) q2)
  · cases e : G a with
    | some u => exact hid_none (R.nw a u e n)
    | none => exact hid_none (R.hh.free (nw a o q e))
  · by_cases e : i = r.length - 1
    · subst e
      rw [at_last] at hx
      cases hx
      refine ⟨S.at_, S.un, S.lt, fun a k ha _ => ?_⟩
      cases e : G a with
      | some u =>
        have z := eg _ _ e
        rw [ha] at z
        cases z
        exact hid_mk e
      | none => exact hid_none (R.hh.free (nw a _ ha e))
    · have q := R.sl i x (ge i x e hx)
      cases x with
      | un => exact q
      | im d =>
        obtain ⟨v, e1, e2⟩ := q
        exact ⟨v, e1, e2.mono eg⟩
      | ol ds =>
        obtain ⟨a, xs, e1, e2, e3, e4, e5⟩ := q
        obtain ⟨k1, k2⟩ := keep a _ e2 e3
        exact ⟨a, xs, e1, k2, k1, hid_none e4, e5.mono eg⟩
      | od ds =>
        obtain ⟨a, xs, e1, e2, e3, e4, e5⟩ := q
        obtain ⟨k1, k2⟩ := keep a _ e2 e3
        exact ⟨a, xs, e1, k2, k1, hid_none e4, e5.mono eg⟩
      | st w' os' =>
        exfalso
        have z1 := (R.ln.st i _ (ge i _ e hx)).mp trivial
        have z2 := (List.getElem?_eq_some_iff.mp (ge i _ e hx)).1
        have z3 := R.ln.hi
        have z4 := (R.ln.st _ _ el).mp trivial
        omega
  · unfold setSt
    rw [List.length_set]
    exact R.ln.lo
  · unfold setSt
    rw [List.length_set]
    exact R.ln.hi
  · by_cases e : i = r.length - 1
    · subst e
      rw [at_last] at hx
      cases hx
      have z4 := (R.ln.st _ _ el).mp trivial
      exact ⟨fun _ => z4, fun _ => trivial⟩
    · exact R.ln.st i x (ge i x e hx)
end
end PL
end
section
namespace PL
open PySem PySem.Spec PyProof.Rows L2
def PostM (K : PySem.W.Frag) (G H : Hp) (d : D) (os : List Ob) (Q : VK) : Prop := ∀ v G' H', Ex G G' → (∀ a o, hid G H a = some o → H' a = some o) → Ex (um G') H' → (∀ a, H' a = none → G' a = none) → (∀ a o, G' a = some o → G a = none → H a = none) → StOk K H G' H' false os → RpO K G' v d → Q v H'
def spM (K : PySem.W.Frag) (mg : Str → Option Value) (n : Nat) (F : List Ob → List D → R (D × List Ob)) : Sp := fun vs H Q E => ∃ G ds os, Ex (um G) H ∧ (∀ a, H a = none → G a = none) ∧ StOk K H G H false os ∧ RpOA K G vs ds ∧ ds.length = n ∧ (match F os ds with
  | .ok (d, os') => PostM K G H d os' Q
  | .err c => ∀ H', Ex H H' → E (clsV mg c) none H'
  | .stuck => False)
structure FnMf (P : Program) (w : World) (K : PySem.W.Frag) (mg : Str → Option Value) (base : Heap) (k : Nat) (x : Str) (n : Nat) (F : List Ob → List D → R (D × List Ob)) : Prop where
  ex : ∃ f fd ps, mg x = some (.ref f) ∧ PySem.W.keepIn K (.ref f) = true ∧ Binds K fd ps [] ∧ FnOk P w K mg base (L2.CX P w) k f fd ps (spM K mg n F)
structure FnMm (P : Program) (w : World) (K : PySem.W.Frag) (mg : Str → Option Value) (base : Heap) (k : Nat) (c m : Str) (n : Nat) (F : List Ob → List D → R (D × List Ob)) : Prop where
  ex : ∃ f fd ps, Meth K (He.ga K c) m f ∧ Binds K fd ps [] ∧ FnOk P w K mg base (L2.CX P w) k f fd ps (spM K mg n F)
def KM (K : PySem.W.Frag) (mg : Str → Option Value) (E : WX) (T : Stt) (s : St) (H : Hp) (P : D → Hp → Hp → Prop) : R (D × List Ob) → Prop
  | .ok (d, os) => ∀ G' H', Ex T.G G' → Rel K T.G0 (hid T.G T.H0) (setSt T.r os) s G' H' → P d G' H'
  | .err c => ∀ H', Ex T.H0 H' → Ex H H' → E (clsV mg c) none s H'
  | .stuck => False
def tEM (K : PySem.W.Frag) (mg : Str → Option Value) (E : WX) (f : Rho → R (D × List Ob)) : TE := fun s H Q => ∃ T, Rl K T s H ∧ hasSt T.r = true ∧ KM K mg E T s H (fun d G' H' => ∀ v, RpO K G' v d → Q v H') (f T.r)
def EVM (X : Cx) (E : WX) (e : Expr) (f : Rho → R (D × List Ob)) : Prop := PE X e (tEM X.K X.mg E f)
section
variable {K : PySem.W.Frag} {mg : Str → Option Value} {E : WX}
theorem KM.mono {T : Stt} {s : St} {H H1 : Hp} {G1 : Hp} {P : D → Hp → Hp → Prop} {x : R (D × List Ob)} (h : KM K mg E T s H P x) (eg : Ex T.G G1) (eh : Ex H H1) (nw : Nw T.G G1 H) (R : Rl K T s H) : KM K mg E { T with G := G1 } s H1 P x := by
  cases x with
  | ok p =>
    intro G' H' a b
    have e : hid T.G T.H0 = hid G1 T.H0 := by
      funext c
      unfold hid
      cases q : T.G c with
      | some u => rw [eg _ _ q]
      | none =>
        cases q1 : G1 c with
        | none => rfl
        | some u =>
          have m : isMk u = false := by
            cases m : isMk u with
            | false => rfl
            | true => rw [nw.old c u q1 m] at q; cases q
          simp [m]
    refine h G' H' (eg.trans a) ?_
    rw [e]
    exact b
  | err c => exact fun H' e0 e1 => h H' e0 (eh.trans e1)
  | stuck => exact h
theorem KM.bnd {α : Type} {T : Stt} {s : St} {H : Hp} {x : R α} {k : α → R (D × List Ob)} {P : D → Hp → Hp → Prop} {P' : α → Hp → Hp → Prop} (R : Rl K T s H) (h : KM K mg E T s H P (x.bnd k))
    (hk : ∀ d G' H', x = .ok d → Ex T.G G' → Ex H H' → Nw T.G G' H → Rel K T.G0 T.H0 T.r s G' H' → KM K mg E { T with G := G' } s H' P (k d) → P' d G' H') : KE K mg E T s H P' x := by
  cases x with
  | ok d => exact fun G' H' a b n c => hk d G' H' rfl a b n c (KM.mono h a b n R)
  | err c => exact fun H' e0 e1 => h H' e0 e1
  | stuck => exact h
end
section
variable {X : Cx} {E : WX} {o e : Expr} {fo : Rho → R D} {es : List Expr} {fs : Rho → R (List D)} {x c m : Str} {p apos pos : Pos} {k kx n : Nat} {F : List Ob → List D → R (D × List Ob)}
end
section
variable {X : Cx} {CX : CXT} {k : Nat} {f C : Addr} {fd : FuncData} {ps : List Str} {sp : Sp} {E : St → XK} {x : Str} {p pos : Pos} {e : Expr} {es : List Expr} {t : TA}
end
structure ClsM (P : Program) (w : World) (K : PySem.W.Frag) (mg : Str → Option Value) (base : Heap) (k : Nat) (c : Str) (n : Nat) (F : List Ob → List D → R (D × List Ob)) : Prop where
  ex : ∃ f fd ps, Mk K (He.ga K c) f ∧ mg c = some (.ref (He.ga K c)) ∧ Binds K fd ps [] ∧ FnOk P w K mg base (L2.CX P w) k f fd ps (spM K mg n F)
section
variable {X : Cx} {E : WX} {e : Expr} {es : List Expr} {fs : Rho → R (List D)} {c : Str} {p pos : Pos} {k kx n : Nat} {F : List Ob → List D → R (D × List Ob)}
end
end PL
end
section
namespace PL
open PySem PySem.Spec PyProof.Rows L2
def wSt (r : Rho) : Bool := match r.getLast? with
  | some (.st true _) => true
  | _ => false
theorem wSt_has {r : Rho} (h : wSt r = true) : hasSt r = true := by
  unfold wSt at h
  unfold hasSt
  cases e : r.getLast? with
  | none => rw [e] at h; cases h
  | some x =>
    rw [e] at h
    cases x <;> first | rfl | cases h
theorem wSt_at {r : Rho} (h : wSt r = true) : r[r.length - 1]? = some (.st true (stOf r)) := by
  unfold wSt at h
  rw [← List.getLast?_eq_getElem?]
  unfold stOf
  cases e : r.getLast? with
  | none => rw [e] at h; cases h
  | some x =>
    rw [e] at h
    cases x with
    | st w os => cases w <;> first | rfl | cases h
    | _ => cases h
section
variable {K : PySem.W.Frag} {G0 H0 G H : Hp} {r : Rho} {s : St}
theorem Rel.sto (R : Rel K G0 H0 r s G H) (h : wSt r = true) : StOk K H0 G H true (stOf r) := R.sl _ _ (wSt_at h)
theorem hid_eq (R : Rel K G0 H0 r s G H) (h : wSt r = true) : hid G H0 = H0 := by
  have S := R.sto h
  funext a
  unfold hid
  cases e : G a with
  | none => rfl
  | some o =>
    show (if isMk o then none else H0 a) = H0 a
    cases m : isMk o with
    | false => rfl
    | true =>
      obtain ⟨k, rfl⟩ := isMk_mrk m
      rw [S.ch a k e rfl]
      rfl
end
theorem KS.bndM {K : PySem.W.Frag} {mg : Str → Option Value} {E : WX} {T : Stt} {Z : Ends} {s : St} {H : Hp} {x : R (D × List Ob)} {k : D × List Ob → R Fl} {P : D → Hp → Hp → Prop} (R : Rl K T s H) (hw : wSt T.r = true) (h : KS K mg E T Z (x.bnd k))
    (hk : ∀ d os G' H', x = .ok (d, os) → Ex T.G G' → Rel K T.G0 T.H0 (setSt T.r os) s G' H' → KS K mg E { T with r := setSt T.r os, G := G' } Z (k (d, os)) → P d G' H') : KM K mg E T s H P x := by
  cases x with
  | ok p =>
    obtain ⟨d, os⟩ := p
    intro G' H' a b
    rw [hid_eq R hw] at b
    exact hk d os G' H' rfl a b (KS.mono (T' := { T with r := setSt T.r os, G := G' }) h rfl rfl a)
  | err c => exact fun H' e0 _ => h s H' e0
  | stuck => exact h
section
variable {X : Cx} {E : WX} {e o : Expr} {f : Rho → R (D × List Ob)} {fo fe : Rho → R D} {pos pos' : Pos} {c fl : Str}
end
section
variable {X : Cx} {E : WX} {e o : Expr} {fs : Rho → R (List D)} {fo : Rho → R D} {pos pos' : Pos} {c fl : Str}
end
end PL
end
section
namespace PL
open PySem PySem.Spec PyProof.Rows L2
section
variable {X : Cx} {E : WX} {o e : Expr} {fo fe : Rho → R D} {apos cpos pos : Pos}
end
section
variable {K : PySem.W.Frag} {G0 H0 G H : Hp} {r : Rho} {s : St}
theorem Rel.sw (R : Rel K G0 H0 r s G H) (h : hasSt r = true) : Rel K G0 (hid G H0) (setSt r (stOf r)) s G H := by
  obtain ⟨w, os, el, es⟩ := last_at h
  have S : StOk K H0 G H w os := R.sl _ _ el
  rw [es]
  exact R.after h (Same.refl _) (fun a o q => (hid_is q).1) R.gh R.gf (fun a o q n => by rw [q] at n; cases n) (X0 := H0) ⟨S.at_, S.un, S.lt, fun _ _ _ z => by cases z⟩
end
section
variable {X : Cx} {E : WX} {st : Stmt} {rest sts : List Stmt} {f g : Rho → R Fl}
end
section
variable {P : Program} {w : World} {K : PySem.W.Frag} {mg : Str → Option Value} {base : Heap}
end
end PL
end
section
namespace PL
open PySem PySem.Spec PyProof.Rows L2
def KX {α : Type} (K : PySem.W.Frag) (mg : Str → Option Value) (E : WX) (T : Stt) (s : St) (P : α → Rho → Hp → Hp → Prop) : R (α × Rho) → Prop
  | .ok (d, r') => ∀ G' H', Ex T.G G' → Rel K T.G0 T.H0 r' s G' H' → P d r' G' H'
  | .err c => ∀ H', Ex T.H0 H' → E (clsV mg c) none s H'
  | .stuck => False
def tEX (K : PySem.W.Frag) (mg : Str → Option Value) (E : WX) (f : Rho → R (D × Rho)) : TE := fun s H Q => ∃ T, Rl K T s H ∧ wSt T.r = true ∧ KX K mg E T s (fun d _ G' H' => ∀ v, RpE K G' s v d → Q v H') (f T.r)
def tTX (K : PySem.W.Frag) (mg : Str → Option Value) (E : WX) (f : Rho → R (Bool × Rho)) : TT := fun s H Q => ∃ T, Rl K T s H ∧ wSt T.r = true ∧ KX K mg E T s (fun b _ _ H' => Q b H') (f T.r)
def EVX (X : Cx) (E : WX) (e : Expr) (f : Rho → R (D × Rho)) : Prop := PE X e (tEX X.K X.mg E f)
def ETX (X : Cx) (E : WX) (e : Expr) (f : Rho → R (Bool × Rho)) : Prop := PT X e (tTX X.K X.mg E f)
def EWX (X : Cx) (E : WX) (e : Expr) (f : Rho → R (Bool × Rho)) : Prop := PW X e (tTX X.K X.mg E f)
section
variable {K : PySem.W.Frag} {mg : Str → Option Value} {E : WX} {α β : Type}
theorem KX.bnd {T : Stt} {s : St} {x : R (α × Rho)} {k : α × Rho → R (β × Rho)} {P : β → Rho → Hp → Hp → Prop} {P' : α → Rho → Hp → Hp → Prop} (h : KX K mg E T s P (x.bnd k))
    (hk : ∀ d r' G' H', x = .ok (d, r') → Ex T.G G' → Rel K T.G0 T.H0 r' s G' H' → KX K mg E { T with r := r', G := G' } s P (k (d, r')) → P' d r' G' H') : KX K mg E T s P' x := by
  cases x with
  | ok p =>
    obtain ⟨d, r'⟩ := p
    intro G' H' eg R'
    refine hk d r' G' H' rfl eg R' ?_
    have h2 : KX K mg E T s P (k (d, r')) := h
    cases q : k (d, r') with
    | ok b =>
      obtain ⟨b, r2⟩ := b
      rw [q] at h2
      intro G2 H2 eg2 R2
      exact h2 G2 H2 (eg.trans eg2) R2
    | err c => rw [q] at h2; exact h2
    | stuck => rw [q] at h2; exact h2
  | err c => exact h
  | stuck => exact h
theorem KX.bndE {γ : Type} {T : Stt} {s : St} {H : Hp} {x : R γ} {k : γ → R (β × Rho)} {P : β → Rho → Hp → Hp → Prop} {P' : γ → Hp → Hp → Prop} (h : KX K mg E T s P (x.bnd k))
    (hk : ∀ d G' H', x = .ok d → Ex T.G G' → Ex H H' → Nw T.G G' H → Rel K T.G0 T.H0 T.r s G' H' → KX K mg E { T with G := G' } s P (k d) → P' d G' H') : KE K mg E T s H P' x := by
  cases x with
  | ok d =>
    intro G' H' eg eh nw R'
    refine hk d G' H' rfl eg eh nw R' ?_
    have h2 : KX K mg E T s P (k d) := h
    cases q : k d with
    | ok b =>
      obtain ⟨b, r2⟩ := b
      rw [q] at h2
      intro G2 H2 eg2 R2
      exact h2 G2 H2 (eg.trans eg2) R2
    | err c => rw [q] at h2; exact h2
    | stuck => rw [q] at h2; exact h2
  | err c => exact fun H' e _ => h H' e
  | stuck => exact h
theorem KX.bndM {T : Stt} {s : St} {H : Hp} {x : R (D × List Ob)} {k : D × List Ob → R (β × Rho)} {P : β → Rho → Hp → Hp → Prop} {P' : D → Hp → Hp → Prop} (R : Rl K T s H) (hw : wSt T.r = true) (h : KX K mg E T s P (x.bnd k))
    (hk : ∀ d os G' H', x = .ok (d, os) → Ex T.G G' → Rel K T.G0 T.H0 (setSt T.r os) s G' H' → KX K mg E { T with r := setSt T.r os, G := G' } s P (k (d, os)) → P' d G' H') : KM K mg E T s H P' x := by
  cases x with
  | ok p =>
    obtain ⟨d, os⟩ := p
    intro G' H' eg R'
    rw [hid_eq R hw] at R'
    refine hk d os G' H' rfl eg R' ?_
    have h2 : KX K mg E T s P (k (d, os)) := h
    cases q : k (d, os) with
    | ok b =>
      obtain ⟨b, r2⟩ := b
      rw [q] at h2
      intro G2 H2 eg2 R2
      exact h2 G2 H2 (eg.trans eg2) R2
    | err c => rw [q] at h2; exact h2
    | stuck => rw [q] at h2; exact h2
  | err c => exact fun H' e _ => h H' e
  | stuck => exact h
theorem KX.here {T : Stt} {s : St} {H : Hp} {P : α → Rho → Hp → Hp → Prop} {d : α} {r : Rho} (h : KX K mg E T s P (.ok (d, r))) (R : Rel K T.G0 T.H0 r s T.G H) : P d r T.G H := h T.G H (Same.refl _) R
end
def fXm (f : Rho → R (D × List Ob)) (r : Rho) : R (D × Rho) := (f r).bnd fun p => .ok (p.1, setSt r p.2)
def fXe (f : Rho → R D) (r : Rho) : R (D × Rho) := (f r).bnd fun d => .ok (d, r)
def fXt (f : Rho → R Bool) (r : Rho) : R (Bool × Rho) := (f r).bnd fun b => .ok (b, r)
section
variable {X : Cx} {E : WX} {a b e : Expr} {rest : List Expr} {f : Rho → R (D × List Ob)} {fe : Rho → R D} {fa fb : Rho → R (D × Rho)} {ga gb : Rho → R (Bool × Rho)} {gt : Rho → R Bool} {pos : Pos}
theorem EVM.x (h : EVM X E e f) : EVX X E e (fXm f) := pe_imp h fun s H Q ⟨T, R, hw, h⟩ => ⟨T, R, wSt_has hw, KX.bndM R hw h fun d os G' H' _ eg R' h1 v rv => KX.here (T := { T with r := setSt T.r os, G := G' }) h1 R' v rv.e⟩
theorem EV.x (h : EV X E e fe) : EVX X E e (fXe fe) := pe_imp h fun s H Q ⟨T, R, hw, h⟩ => ⟨T, R, KX.bndE h fun d G' H' _ eg _ _ R' h1 v rv => KX.here (T := { T with G := G' }) h1 R' v rv⟩
theorem ET.x (h : ET X E e gt) : ETX X E e (fXt gt) := pt_imp h fun s H Q ⟨T, R, hw, h⟩ => ⟨T, R, KX.bndE h fun d G' H' _ eg _ _ R' h1 => KX.here (T := { T with G := G' }) h1 R'⟩
theorem EWX.et (h : EWX X E a ga) : ETX X E a ga := PW.pt h
end
section
variable {X : Cx} {E : WX} {a b e o : Expr} {fa : Rho → R (D × Rho)} {ga : Rho → R (Bool × Rho)} {f1 f2 : Rho → R Fl} {b1 b2 : List Stmt} {pos pos' : Pos}
end
end PL
end
section
namespace PL
open PySem PySem.Spec PyProof.Rows L2
def tXX (K : PySem.W.Frag) (mg : Str → Option Value) (E : WX) (f : Rho → R (List Sl × Rho)) : TA := fun s H Q => ∃ T, Rl K T s H ∧ wSt T.r = true ∧ KX K mg E T s (fun ss r' G' H' => ∀ vs ps Hm, RpS K Hm G' H' vs ss ps → (∀ p ∈ ps, FreeAt r' s p ∧ T.H0 p = none) → Q vs H') (f T.r)
def EXX (X : Cx) (E : WX) (es : List Expr) (f : Rho → R (List Sl × Rho)) : Prop := PA X es (tXX X.K X.mg E f)
def fXX (fs : Rho → R (List Sl)) (r : Rho) : R (List Sl × Rho) := (fs r).bnd fun ss => .ok (ss, r)
section
variable {X : Cx} {E : WX} {a : Expr} {es : List Expr} {fa : Rho → R (D × Rho)} {fs : Rho → R (List Sl)} {fx : Rho → R (List Sl × Rho)}
theorem EX.x (h : EX X E es fs) : EXX X E es (fXX fs) := pa_imp h fun s H Q ⟨T, R, hw, h⟩ => ⟨T, R, KX.bndE h fun ss G' H' _ eg _ _ R' h1 vs ps rs => by
  refine KX.here (T := { T with G := G' }) h1 R' vs ps H rs fun p hp => ⟨fun k o => ?_, R.hh.free (rs.none p hp)⟩
  obtain ⟨⟨u, q⟩, _⟩ := own_in R o
  rw [rs.none p hp] at q
  cases q⟩
end
section
variable {X : Cx} {E : WX} {pos : Pos} {x y z : Str} {a b c : Expr} {fs : Rho → R (List Sl × Rho)} {px py pz pt : Pos} {kt k2 : Nat} {pt2 : Pos}
theorem RpS.len {K : PySem.W.Frag} {H G1 H1 : Hp} {vs : List V} {ss : List Sl} {ps : List Addr} (q : RpS K H G1 H1 vs ss ps) : vs.length = ss.length := by
  induction q with
  | nil => rfl
  | im _ _ ih => rw [List.length_cons, List.length_cons, ih]
  | ol _ _ _ _ _ _ ih => rw [List.length_cons, List.length_cons, ih]
  | od _ _ _ _ _ _ ih => rw [List.length_cons, List.length_cons, ih]
end
def tNX (K : PySem.W.Frag) (mg : Str → Option Value) (E : WX) (f : Rho → R (List D × Rho)) : TE := fun s H Q => ∃ T, Rl K T s H ∧ wSt T.r = true ∧ KX K mg E T s (fun ds r' G' H' => ∀ p xs, FreeAt r' s p → T.H0 p = none → H' p = some (.lst xs) → G' p = none → RpA K G' xs ds → Q (.ref p) H') (f T.r)
def ENX (X : Cx) (E : WX) (e : Expr) (f : Rho → R (List D × Rho)) : Prop := PE X e (tNX X.K X.mg E f)
def fLX (fs : Rho → R (List D × Rho)) (r : Rho) : R (D × Rho) := (fs r).bnd fun p => .ok (.lst p.1, p.2)
section
variable {X : Cx} {E : WX} {a e : Expr} {es : List Expr} {fa : Rho → R (D × Rho)} {fs : Rho → R (List D × Rho)} {pos pos' : Pos}
theorem ENX.x (h : ENX X E e fs) : EVX X E e (fLX fs) :=
  pe_imp h fun s H Q ⟨T, R, hw, h⟩ => ⟨T, R, hw, KX.bnd h fun ds r1 G1 H1 _ eg R1 h1 p xs hf h0 hp hg hr => by
    have eG := ex_new (o := HO.lst xs) hg
    have h2 : KX X.K X.mg E { T with r := r1, G := G1 } s (fun d _ G' H' => ∀ v, RpE X.K G' s v d → Q v H') (.ok (D.lst ds, r1)) := h1
    exact h2 (upd G1 p (.lst xs)) H1 eG (R1.freeze hp h0 hg hf) _ (Rp.lst upd_same (hr.mono eG))⟩
end
end PL
end
section
namespace PL
open PySem PySem.Spec PyProof.Rows L2
section
variable {P : Program} {w : World} {K : PySem.W.Frag} {mg : Str → Option Value} {base : Heap} {x c m qual : Str} {params : Arguments} {body : List Stmt} {scope : Scope} {f : Addr} {fd : FuncData} {N ps : List Str} {k : Nat} {fb : Rho → R Fl}
end
end PL
end
section
namespace PL
open PySem PySem.Spec PyProof.Rows L2
end PL
end
section
namespace PL
open PySem PySem.Spec PyProof.Rows L2
section
variable {X : Cx} {E : WX} {pos p : Pos}
end
end PL
end
section
namespace PL
open PySem PySem.Spec PyProof.Rows L2
def dropD (ks : List (Key × D)) (k : Key) : List (Key × D) := ks.filter fun kv => decide (kv.1 ≠ k)
theorem RpK.drop {K : PySem.W.Frag} {G : Hp} {k : Key} : ∀ {v : List (Key × V)} {d : List (Key × D)}, RpK K G v d → RpK K G (dropK v k) (dropD d k)
  | _, _, .nil => .nil
  | _, _, .cons (k := k0) h r => by
    unfold dropK dropD
    rw [List.filter_cons, List.filter_cons]
    by_cases e : k0 ≠ k
    · rw [if_pos (decide_eq_true e), if_pos (decide_eq_true e)]
      exact .cons h r.drop
    · rw [if_neg (by simpa using e), if_neg (by simpa using e)]
      exact r.drop
section
variable {X : Cx} {E : WX} {pos p : Pos}
end
end PL
end
section
namespace PL
open PySem PySem.Spec PyProof.Rows L2
theorem RpA.dropLast {K : PySem.W.Frag} {G : Hp} {xs : List V} {ds : List D} (r : RpA K G xs ds) : RpA K G xs.dropLast ds.dropLast := by
  rw [List.dropLast_eq_take, List.dropLast_eq_take, r.length]
  exact r.take _
section
variable {X : Cx} {E : WX} {o : Expr} {fo : Rho → R D} {apos cpos : Pos}
end
end PL
end
section
namespace PL
open PySem PySem.Spec PyProof.Rows L2
section
variable {X : Cx} {E : WX} {a k v : Expr} {es : List Expr} {fk fv : Rho → R D} {fd : Rho → R (List (Key × D))} {fs : Rho → R (List Sl)} {pos : Pos}
end
end PL
end
section
namespace PL
open PySem PySem.Spec PyProof.Rows L2
noncomputable def powB (i j : Int) : Bool := okB (0 ≤ j ∧ j ≤ 10 ∧ i.natAbs < 2 ^ 4000)
def CPowW (i j : Int) : Prop := 0 ≤ j ∧ j ≤ 10 ∧ i.natAbs < 2 ^ 4000
theorem op_powN {X : Cx} : OpR X (binaryOp .Pow) (rI CPowW fun i j => .int (i ^ j.toNat)) := opI fun _ _ _ _ _ _ _ hc q => PyProof.Rows.pow_int hc.1 (by
  have h := PySem.intBits_le_iff.mpr hc.2.2
  have h1 := hc.1
  have h2 := hc.2.1
  refine Int.le_trans (Int.mul_le_mul (c := 4000) (d := 10) (by omega) h2 h1 (by decide)) (by decide)) q
noncomputable def powI : Rho → D → D → R D := fun _ => int2 fun i j => if powB i j then .ok (.int (i ^ j.toNat)) else .stuck
theorem ops_powI {K : PySem.W.Frag} : OpS K (rI CPowW fun i j => .int (i ^ j.toNat)) powI := ops_int (cb := fun i j => powB i j) (fun _ _ h => okB_iff.mp h) fun _ _ _ => .int _
section
variable {X : Cx} {E : WX} {a b : Expr} {fa fb : Rho → R D} {pos : Pos}
end
end PL
end
section
namespace PL
open PySem PySem.Spec PyProof.Rows L2
def postX (M : Model) (A : Around) (E : Value → Shared → Prop) (use : Option (Value → Sem Unit)) (Q : Value → Shared → Prop) (acc : Value) (C : Addr) (F : Option Addr) (r : Result) (s' : Shared) : Prop :=
  match r, use with
  | .ok _, none => ∃ m, s'.heap.Ns C m ∧ ∀ h', Heap.SameBut C s'.heap h' → Q acc { s' with heap := h' }
  | .ok _, some u => wpAny M A (u acc) (fun _ s'' => ∃ m, s''.heap.Ns C m ∧ ∀ h', Heap.SameBut C s''.heap h' → Q .none { s'' with heap := h' }) E s'
  | .error x, _ => ∃ m, s'.heap.Ns C m ∧ ∀ h', Heap.SameBut C s'.heap h' → ∀ cenv : Env, cenv.locals = C → cenv.frame = F → wpAny M A (passOn "comprehension.variables-let-go" x cenv : Sem Value) (fun _ _ => False) E { s' with heap := h' }
section
variable {M : Model} {A : Around} {E : Value → Shared → Prop} {env : Env} {s : Shared}
theorem comp_freeX {e : Expr} {scope : Scope} {pos : Pos} {newAcc first : Sem Value} {g : Comprehension} {gs : List Comprehension} {cl : List (Str × Addr)} {use : Option (Value → Sem Unit)}
    {Q : Value → Shared → Prop}
    (hcl : clausesOf e = g :: gs) (hs : ∀ x, foldedSetIterable g.iter env x = pure x) (hclos : closureFor scope env = pure cl)
    (hkind : scope.kind = .function) (hnames : ∀ x ∈ scope.names, x.2 = .local → scope.names.lookup x.1 = some .local)
    (h : wpAny M A first (fun x s₁ => wpAny M A (pyIter x) (fun it s₂ => wpAny M A newAcc (fun acc s₃ =>
      wpAny M A (newFunctionEnv scope env.globals cl [] env.qual none .none (some env)) (fun cenv s₄ =>
        codeAny M A (.compStart e 0 it acc { cenv with scope := relabel scope env }) (postX M A E use Q acc cenv.locals cenv.frame) s₄) E s₃) E s₂) E s₁) E s) :
    wpAny M A (comprehension e scope env pos newAcc false first use) Q E s := by
  unfold comprehension
  rw [hclos, hcl]
  refine wpAny_bind (wpAny_mono h (fun x s₁ h₁ => wpAny_bind (wpAny_standAt (wpAny_bind (wpAny_of_eq (hs x) (wpAny_bind (wpAny_holding (wpAny_mono h₁ (fun it s₂ h₂ =>
    wpAny_standIf (wpAny_bind (wpAny_mono h₂ (fun acc s₃ h₃ => wpAny_bind (wpAny_pure (wpAny_bind (wpAny_mono h₃ (fun cenv s₄ h₄ => ?_) fun _ _ h' => h')))) fun _ _ h' => h')))
      fun _ _ h' => h'))))))) fun _ _ h' => h')
  dsimp only
  have hv : ∀ x ∈ (scope.names.filter fun x => (x.2 == .local || x.2 == .cell) && x.1 != (".0" : Str)).reverse, x.2 = .local →
      Env.kindOf { cenv with scope := relabel scope env } x.1 = some .local := fun x hx hl => lookup_relabel_local (hnames x (List.mem_filter.mp (List.mem_reverse.mp hx)).1 hl)
  have hv' : ∀ x ∈ (scope.names.filter fun x => (x.2 == .local || x.2 == .cell) && x.1 != (".0" : Str)).reverse.drop 1 ++ (scope.names.filter fun x => (x.2 == .local || x.2 == .cell) && x.1 != (".0" : Str)).reverse.take 1,
      x.2 = .local → Env.kindOf { cenv with scope := relabel scope env } x.1 = some .local := fun x hx hl => by
    rcases List.mem_append.mp hx with h1 | h1
    · exact hv x (List.mem_of_mem_drop h1) hl
    · exact hv x (List.mem_of_mem_take h1) hl
  refine wpAny_holding (wpAny_bind (wpAny_attempt (wpAny_holding (wpAny_run (codeAny_mono h₄ fun r s' hr => ?_)))))
  cases r with
  | ok f =>
    cases use with
    | none =>
      obtain ⟨m, hn, hr⟩ := hr
      exact wpAny_bind (wpAny_holding (wpAny_comp_letGo (cenv := { cenv with scope := relabel scope env }) hkind _ s' m hv hn fun h' m' _ hs' => wpAny_pure (hr h' hs')))
    | some u =>
      refine wpAny_bind (wpAny_rule (wpAny_bind (wpAny_holding (wpAny_mono hr (fun _ s'' hr' => ?_) fun _ _ h' => h'))))
      obtain ⟨m, hn, hr'⟩ := hr'
      exact wpAny_bind (wpAny_comp_letGo (cenv := { cenv with scope := relabel scope env }) hkind _ s'' m hv' hn fun h' m' _ hs' => wpAny_pure (hr' h' hs'))
  | error x =>
    have hr' : ∃ m, s'.heap.Ns cenv.locals m ∧ ∀ h', Heap.SameBut cenv.locals s'.heap h' → ∀ cenv' : Env, cenv'.locals = cenv.locals → cenv'.frame = cenv.frame → wpAny M A (passOn "comprehension.variables-let-go" x cenv' : Sem Value) (fun _ _ => False) E { s' with heap := h' } := by cases use <;> exact hr
    obtain ⟨m, hn, hr⟩ := hr'
    exact wpAny_bind (wpAny_holding (wpAny_comp_letGo (cenv := { cenv with scope := relabel scope env }) hkind _ s' m hv hn fun h' m' _ hs' => wpAny_mono (hr h' hs' _ rfl rfl) (fun _ _ f => f.elim) fun _ _ y => y))
theorem note_frame_eq {x : Value} {env env' : Env} (h : env.frame = env'.frame) : noteFrame x env = noteFrame x env' := by
  unfold noteFrame PySem.frameOf
  rw [h]
end
abbrev blkE (X : Cx) (s : Shared) (H : Hp) (scope : Scope) (cenv : Env) (fp : List Addr) (xe : Value → Shared → Prop) : Cx := { X with s_0 := s, H_0 := H, env := cenv, outer := X.stack, ex := fp, fn := fun x => scope.names.lookup x == some .cell, pn := [], xe := xe }
section
variable {X : Cx} {pins : List (Addr × Obj)} {σ : L2.St} {H : Hp} {s s' : Shared}
theorem fly_of_call {E : XK} (I : Inv X pins σ H s) {u : Value} (c : CX X.prog X.w X.stack H s E u s') :
    ∃ (a : Addr) (B : Heap) (sI : Shared) (H' : Hp) (cls : Value) (d : Option Addr), u = .ref a ∧ Inv X pins σ H' sI ∧ (∀ b o, sI.heap.get? b = some o → b ∉ frs X.stack → B.get? b = some o) ∧ sI.heap.UpToSlots s'.heap ∧
      HandSPX.FlyingZ B X.stack a (Zc cls d) s'.heap ∧ H' a = none ∧ s'.os = sI.os ∧ AllBare s'.gens ∧ E cls d H' := by
  obtain ⟨a, B, H', cls, d, rfl, fl, hok, ub, na, os, ag, hE⟩ := c
  obtain ⟨G, g1, g2⟩ := restrict s'.heap fun b => (B.get? b).isSome || decide (b ∈ frs X.stack)
  have st : B.StaysIn s'.heap := fl.1
  have gB : ∀ b o, B.get? b = some o → G.get? b = some o := fun b o e => by
    rw [g1 b (by simp [e])]
    exact st b o e
  have gF : ∀ b, b ∈ frs X.stack → G.get? b = s'.heap.get? b := fun b hb => g1 b (by simp [hb])
  have og : ∀ b o, G.get? b = some o → s'.heap.get? b = some o ∧ ((B.get? b).isSome = true ∨ b ∈ frs X.stack) := fun b o e => by
    cases q : ((B.get? b).isSome || decide (b ∈ frs X.stack)) with
    | false => rw [g2 b q] at e; cases e
    | true =>
      rw [g1 b q] at e
      exact ⟨e, by simpa [Bool.or_eq_true] using q⟩
  refine ⟨a, B, { s with heap := G, gens := s'.gens, drawn := s'.drawn, toks := s'.toks }, H', cls, d, rfl, ?_, fun b o e hb => ?_, Heap.UpToSlots.of_keeps fun b o e => (og b o e).1, fl, na, os, ag, hE⟩
  · refine I.call (ch := []) ⟨fun b o e n hb _ => gB b o (ub.keep b o e n hb), fun b o e n hb _ => ?_, fun b o e n _ => ub.free b o e n, fun b o e _ => ?_, ub.tups, ub.frzs, ub.tbls⟩ (hok.kept gB) ag (fun _ z => nomatch z)
    · obtain ⟨sl, q⟩ := ub.slot b o e hb
      exact ⟨sl, by rw [gF b hb]; exact q⟩
    · by_cases hb : b ∈ frs X.stack
      · obtain ⟨sl, q⟩ := ub.slot b o e hb
        exact ⟨_, by rw [gF b hb]; exact q⟩
      · obtain ⟨o', q⟩ := ub.there b o e hb
        exact ⟨o', gB b o' q⟩
  · obtain ⟨e', h⟩ := og b o e
    rcases h with h | h
    · obtain ⟨o', q⟩ := Option.isSome_iff_exists.mp h
      have z := st b o' q
      rw [e'] at z; cases z
      exact q
    · exact absurd h hb
end
theorem funFrames_move {B B' h h' : Heap} {C : Addr} (kb : ∀ b, B.get? b = none → B'.get? b = none) (kh : ∀ b o, b ≠ C → h.get? b = some o → h'.get? b = some o) : ∀ {l : List Env}, h.FunFrames B l → C ∉ frs l → h'.FunFrames B' l
  | [], _, _ => trivial
  | env :: l, hh, hn => by
    obtain ⟨hk, ⟨L, o, hf, hb, ho, hd⟩, hr⟩ := hh
    refine ⟨hk, ⟨L, o, hf, kb _ hb, kh _ _ (fun z => hn (List.mem_filterMap.mpr ⟨env, List.mem_cons_self, by rw [hf, z]⟩)) ho, hd⟩, funFrames_move kb kh hr fun m => hn ?_⟩
    obtain ⟨e, he, q⟩ := List.mem_filterMap.mp m
    exact List.mem_filterMap.mpr ⟨e, List.mem_cons_of_mem _ he, q⟩
section
variable {X : Cx}
theorem block_raises {pins pins' : List (Addr × Obj)} {σ σ' : L2.St} {H3 H2 : Hp} {s3 sI s'' : Shared} {scope : Scope} {ce : Env} {fp : List Addr} {xe : Value → Shared → Prop} {W : WX} {a : Addr} {B : Heap} {cls : Value} {d : Option Addr} {use : Option (Value → Sem Unit)} {Qf : Value → Shared → Prop} {D : Addr}
    (hstk : X.stack = X.env :: X.outer) (hfr : X.env.frame = some X.env.locals) (tk : Takes X W) (I3 : Inv X pins σ H3 s3) (hce : ce.frame = X.env.frame) (hL : ce.locals = s3.heap.objs.size)
    (hch : ∀ b ∈ fp, (b ∈ X.ex ∨ X.s_0.heap.objs.size ≤ b) ∧ b ≠ X.env.locals ∧ (∀ x c, X.env.cells.lookup x = some c → c ≠ b) ∧ ∀ p ∈ X.pn ++ pins, p.1 ≠ b)
    (J : Inv (blkE X s3 H3 scope ce fp xe) pins' σ' H2 sI) (nb : ∀ b o, sI.heap.get? b = some o → b ∉ frs X.stack → B.get? b = some o) (up : sI.heap.UpToSlots s''.heap) (fl : HandSPX.FlyingZ B X.stack a (Zc cls d) s''.heap) (na : H2 a = none)
    (os : s''.os = sI.os) (ag : AllBare s''.gens) (w : W cls d σ H2) :
    notedBy (model X.prog X.w) X.A ce (fun e s' => postX (model X.prog X.w) X.A X.xe use Qf (.ref D) s3.heap.objs.size X.env.frame (.error e) s') (.ref a) s'' := by
  have frA : X.A.frames = some (X.env :: X.outer) := I3.ok.frames.trans (congrArg some hstk)
  have I7 : Inv X pins σ H2 sI := I3.call' (ch := fp) J.os J.base J.hok J.bare hch
  have nC : H2 s3.heap.objs.size = none := by
    have z : H2 ce.locals = none := J.free
    rw [hL] at z
    exact z
  have f := I3.fpOk (Nat.le_refl _) nC
  obtain ⟨f0, f1, f2, f3, f4, f5⟩ := f
  have nS : s3.heap.objs.size ∉ frs X.stack := fun m => by
    rw [hstk] at m
    obtain ⟨e, he, q⟩ := List.mem_filterMap.mp m
    rcases List.mem_cons.mp he with rfl | he
    · rw [hfr] at q
      exact f1 (Option.some.inj q).symm
    · exact f2 (List.mem_filterMap.mpr ⟨e, he, q⟩)
  have nS' : s3.heap.objs.size ∉ frs (X.env :: X.outer) := hstk ▸ nS
  obtain ⟨m, hn, _⟩ := J.loc
  have hn : sI.heap.Ns ce.locals m := hn
  rw [hL] at hn
  obtain ⟨oC, es, ep, hoC, rC⟩ := hn
  have bC : B.get? s3.heap.objs.size = some oC := nb _ _ hoC nS
  rw [hstk] at fl
  show wpAny _ X.A (noteFrame (.ref a) ce) _ _ _
  rw [note_frame_eq hce]
  refine HandSPX.looks_onZ Zc.steady frA hfr fl fun h1 held up1 => ?_
  have key : ∃ m, h1.Ns s3.heap.objs.size m ∧ ∀ h', Heap.SameBut s3.heap.objs.size h1 h' → ∀ cenv : Env, cenv.locals = s3.heap.objs.size → cenv.frame = X.env.frame →
      wpAny (model X.prog X.w) X.A (PySem.passOn "comprehension.variables-let-go" (.ref a) cenv : Sem Value) (fun _ _ => False) X.xe { s'' with heap := h' } := by
    refine ⟨m, ⟨oC, es, ep, held.1 _ _ bC, rC⟩, fun h' sb cenv _ eF => ?_⟩
    have out : ∀ b, B.get? b = none → b ≠ s3.heap.objs.size := fun b e z => by
      rw [z, bC] at e
      cases e
    have hid : ∀ b o, (PySem.W.hideAll B [s3.heap.objs.size]).get? b = some o → b ≠ s3.heap.objs.size := fun b o e z => by
      rw [z, PySem.W.hideAll_none _ (List.mem_singleton.mpr rfl)] at e
      cases e
    have hnone : ∀ b, B.get? b = none → (PySem.W.hideAll B [s3.heap.objs.size]).get? b = none := fun b e => by
      cases q : (PySem.W.hideAll B [s3.heap.objs.size]).get? b with
      | none => rfl
      | some o =>
        have z := PySem.W.of_hideAll _ q
        rw [e] at z
        cases z
    have held' : HandSPX.HeldZ (PySem.W.hideAll B [s3.heap.objs.size]) (X.env :: X.outer) a (Zc cls d) X.env.locals h' := by
      obtain ⟨k1, k2, k3, oe, vs, T, oT, ts, e1, e2, e3, e4, e5, e6, e7, e8, e9⟩ := held
      exact ⟨fun b o e => (sb.2 b (hid b o e)).trans (k1 b o (PySem.W.of_hideAll _ e)), hnone _ k2, funFrames_move hnone (fun b o hb e => (sb.2 b hb).trans e) k3 nS',
        oe, vs, T, oT, ts, (sb.2 a (out a k2)).trans e1, e2, e3, e4, hnone _ e5, e6, (sb.2 T (out T e5)).trans e7, e8, e9⟩
    obtain ⟨oe, vs, T, oT, ts, e1, e2, e3, e4, e5, e6, e7, e8, e9⟩ := id held'.2.2.2
    unfold PySem.passOn
    refine wpAny_bind (wpAny_field e1 e3 e4 ?_)
    rw [if_neg (show ¬ ((Value.ref T == Value.none) = true) from by simp)]
    have fin : wpAny (model X.prog X.w) X.A (setFlight (.ref a) cenv.frame) (fun _ s4 => wpAny (model X.prog X.w) X.A (throw (.ref a) : Sem Value) (fun _ _ => False) X.xe s4) X.xe { s'' with heap := h' } := by
      rw [eF, hfr]
      refine HandSPX.setFlight_onZ held' fun h4 hh4 up4 => wpAny_throw (tk _ _ ?_)
      refine ⟨a, PySem.W.hideAll B [s3.heap.objs.size], { sI with heap := PySem.W.hideAll sI.heap [s3.heap.objs.size] }, pins, σ, H2, cls, d, rfl, I7.turned (t' := sI.toks) (fun b o hb e => PySem.W.hideAll_get _ e (by simpa using hb)) f0 f1 f3 f4 f5,
        fun b o e hb => ?_, fun b o e hd => ?_, .inr (.inr (by rw [hstk]; exact hh4)), na, os, ag, w⟩
      · have z := PySem.W.of_hideAll _ e
        refine PySem.W.hideAll_get _ (nb b o z hb) ?_
        intro m
        rw [PySem.W.hideAll_none _ m] at e
        cases e
      · have z := PySem.W.of_hideAll _ e
        have hb : b ≠ s3.heap.objs.size := fun m => by
          rw [PySem.W.hideAll_none _ (by simp [m])] at e
          cases e
        obtain ⟨sl, q⟩ := up b o z hd
        obtain ⟨sl2, q2⟩ := up1 b _ q hd
        obtain ⟨sl3, q3⟩ := up4 b _ ((sb.2 b hb).trans q2) hd
        exact ⟨sl3, q3⟩
    first
      | exact wpAny_bind (wpAny_pure (wpAny_bind fin))
      | exact wpAny_bind fin
  cases use <;> exact key
theorem thnE {α : Type} {t : Sem α} {Q Q' : α → Shared → Prop} {M : Model} {A : Around} {E E' : Value → Shared → Prop} {s : Shared} (hE : ∀ e s', E e s' → E' e s') (h : wpAny M A t Q E s) (hQ : ∀ a s, Q a s → Q' a s) : wpAny M A t Q' E' s := wpAny_mono h hQ hE
theorem lc_coreX {Wx : WX} {te : L2.St → TE} {pins : List (Addr × Obj)} {s : Shared} {σ : L2.St} {H : Hp} {Q : VK} {elt tg iter : Expr} {ifs : List Expr} {scope : Scope} {own : List (Str × Nat)} {pos pos' : Pos} {wi : TI} {g : TG} {tt : TT} {use : Option (Value → Sem Unit)} {Qf : Value → Shared → Prop}
    (hstk : X.stack = X.env :: X.outer) (hfr : X.env.frame = some X.env.locals) (tk : Takes X Wx) (hc : X.calm = true) (hN : X.N.Nodup) (I : Inv X pins σ H s) (hi : PI X tg iter wi) (ok : BlkOk X.N X.env.scope scope own)
    (hg : ∀ (s : Shared) (H : Hp) (C : Addr) (cl : List (Str × Addr)) (fp : List Addr) (xe : Value → Shared → Prop), PG (blkE X s H scope (compEnvC scope cl C X.env) fp xe) tg g) (ht : ∀ (s : Shared) (H : Hp) (C : Addr) (cl : List (Str × Addr)) (fp : List Addr) (xe : Value → Shared → Prop), PTs (blkE X s H scope (compEnvC scope cl C X.env) fp xe) ifs tt)
    (he : ∀ (s : Shared) (H : Hp) (C : Addr) (cl : List (Str × Addr)) (fp : List Addr) (xe : Value → Shared → Prop), (∀ σ', PassesAt (L2.CX X.prog X.w) (blkE X s H scope (compEnvC scope cl C X.env) fp xe) σ' (fun cls d H' => Wx cls d σ H')) → PE (blkE X s H scope (compEnvC scope cl C X.env) fp xe) elt (te σ)) (hs : ∀ x, foldedSetIterable iter X.env x = pure x)
    (h : tLc wi g tt (te σ) (own.map (·.2)) σ H Q)
    (hRR : ∀ D C s' m H', Inv X pins σ H' s' → Q (.ref D) H' → s'.heap.Ns C m → FpOk X pins H' C → postX (model X.prog X.w) X.A X.xe use Qf (.ref D) C X.env.frame (.ok .next) s') :
    wpAny (model X.prog X.w) X.A (comprehension (.ListComp elt [⟨tg, iter, ifs, 0⟩] scope pos) scope X.env pos' (newList []) false (eval iter X.env) use) Qf X.xe s := by
  have hfree : ∀ y ∈ scope.names, y.2 = .free → ∃ c, X.env.cells.lookup y.1 = some c := fun y hy e => by
    rcases ok.free y hy e with k | k
    · exact I.ok.has _ (.inl k)
    · exact I.ok.has _ (.inr k)
  refine comp_freeX (use := use) rfl hs (closure_ok hfree) ok.kind (fun y hy e => by rw [ok.uniq y hy, e])
    (thn (hi.run pins s σ H _ I h) fun xv s1 hx => thn hx fun itv s2 h2 => ?_)
  obtain ⟨it, fp, tn, J, H2, e, I2, T, st2, f2, q⟩ := h2
  subst e
  refine wpAny_newObj_type (newEnv_comp ?_) (by show 0 ≤ sizeLine; decide)
  generalize hD : s2.heap.objs.size = D
  have hDn : H2 D = none := I2.hok.fresh (Nat.le_of_eq hD)
  obtain ⟨W, ⟨m0, w0⟩, turn⟩ := q D hDn
  generalize hs3 : ({ s2 with heap := s2.heap.push { cls := .type "list", data := .seq ([] : List Value).toArray } } : Shared) = s3
  have I3 : Inv X pins σ (upd H2 D (.lst [])) s3 := by
    rw [← hs3]
    refine I2.laid (t' := s2.toks) (fun b o e => Heap.get?_push_of_some _ e) (Nat.le_of_eq hD) ⟨Nat.zero_le _, [], 0, .nil, ?_⟩
    rw [← hD]
    exact Heap.get?_push_size _ rfl
  have h3 : s3.heap = s2.heap.push { cls := .type "list", data := .seq ([] : List Value).toArray } := by rw [← hs3]
  have sz : ∀ b ∈ fp, b < s2.heap.objs.size := fun b hb => by
    obtain ⟨o, e, _⟩ := T.obj _ _ st2 b hb
    exact Heap.lt_size e
  have f3 : ∀ b ∈ fp, FpOk X pins (upd H2 D (.lst [])) b ∧ b < s3.heap.objs.size := fun b hb => by
    have hlt := sz b hb
    refine ⟨⟨?_, (f2 b hb).2⟩, by rw [h3, Heap.size_push]; exact Nat.lt_succ_of_lt hlt⟩
    rw [upd_ne (by rw [← hD]; exact Nat.ne_of_lt hlt)]
    exact (f2 b hb).1
  have st3 : tn 0 s3.heap := T.keep _ _ _ st2 fun b _ o e => by rw [h3]; exact Heap.get?_push_of_some _ e
  have I4 := block_start I3 ok hN f3
  generalize hXE : (fun (u : Value) (s' : Shared) => notedBy (model X.prog X.w) X.A (compEnvC scope (cellsFrom (s3.heap.objs.size + 1) scope.names (cloFrom X.env.cells scope.names [])) s3.heap.objs.size X.env) (fun e s' => postX (model X.prog X.w) X.A X.xe use Qf (.ref D) s3.heap.objs.size X.env.frame (.error e) s') u s') = XE
  have hot : ∀ σ', PassesAt (L2.CX X.prog X.w) (blkE X s3 (upd H2 D (.lst [])) scope (compEnvC scope (cellsFrom (s3.heap.objs.size + 1) scope.names (cloFrom X.env.cells scope.names [])) s3.heap.objs.size X.env) fp XE) σ' (fun cls d H' => Wx cls d σ H') := fun σ' pins' H' s' u s'' I' cx => by
    obtain ⟨a, B, sI, H2', cls, d, rfl, J, nb, up, fl, na, os, ag, w⟩ := fly_of_call (X := blkE X s3 (upd H2 D (.lst [])) scope (compEnvC scope (cellsFrom (s3.heap.objs.size + 1) scope.names (cloFrom X.env.cells scope.names [])) s3.heap.objs.size X.env) fp XE) I' cx
    show XE (.ref a) s''
    rw [← hXE]
    exact block_raises hstk hfr tk I3 rfl rfl (fun b hb => ⟨(f3 b hb).1.2.2.2.1, (f3 b hb).1.2.1, (f3 b hb).1.2.2.2.2.1, (f3 b hb).1.2.2.2.2.2⟩) J nb up fl na os ag w
  have I4 : Inv (blkE X s3 (upd H2 D (.lst [])) scope (compEnvC scope (cellsFrom (s3.heap.objs.size + 1) scope.names (cloFrom X.env.cells scope.names [])) s3.heap.objs.size X.env) fp XE) [] (wipe σ (own.map (·.2))) (upd H2 D (.lst [])) _ := I4.wish XE
  have pg := hg s3 (upd H2 D (.lst [])) s3.heap.objs.size (cellsFrom (s3.heap.objs.size + 1) scope.names (cloFrom X.env.cells scope.names [])) fp XE
  have pt := ht s3 (upd H2 D (.lst [])) s3.heap.objs.size (cellsFrom (s3.heap.objs.size + 1) scope.names (cloFrom X.env.cells scope.names [])) fp XE
  have pe := he s3 (upd H2 D (.lst [])) s3.heap.objs.size (cellsFrom (s3.heap.objs.size + 1) scope.names (cloFrom X.env.cells scope.names [])) fp XE hot
  show codeAny _ _ (.compStart (.ListComp elt [⟨tg, iter, ifs, 0⟩] scope pos) 0 (.ref it) (.ref D) (compEnvC scope (cellsFrom (s3.heap.objs.size + 1) scope.names (cloFrom X.env.cells scope.names [])) s3.heap.objs.size X.env)) (postX (model X.prog X.w) X.A X.xe use Qf (.ref D) s3.heap.objs.size X.env.frame) { s3 with heap := pushCells (s3.heap.push { cls := .type "dict", data := .dict #[] }) scope.names }
  have nfp : ∀ b ∈ fp, (upd H2 D (.lst [])) b = none := fun b hb => (f3 b hb).1.1
  generalize hce : compEnvC scope (cellsFrom (s3.heap.objs.size + 1) scope.names (cloFrom X.env.cells scope.names [])) s3.heap.objs.size X.env = ce at I4 pg pt pe hXE ⊢
  have cL : ce.locals = s3.heap.objs.size := by subst hce; rfl
  generalize hH3 : upd H2 D (.lst []) = H3 at I3 I4 pg pt pe w0 nfp f3
  generalize hs4 : ({ s3 with heap := pushCells (s3.heap.push { cls := .type "dict", data := .dict #[] }) scope.names } : Shared) = s4 at I4 ⊢
  have hN' : ∀ e s', XE e s' → notedBy (model X.prog X.w) X.A ce (fun e s' => postX (model X.prog X.w) X.A X.xe use Qf (.ref D) s3.heap.objs.size X.env.frame (.error e) s') e s' := fun e s' q => by rw [← hXE] at q; exact q
  have st4 : tn 0 s4.heap := T.keep _ _ _ st3 fun b _ o e => by rw [← hs4]; exact pushCells_keeps _ _ _ _ (Heap.get?_push_of_some _ e)
  have stat : ∀ {σ' : L2.St} {H' : Hp} {s' : Shared}, Inv (blkE X s3 H3 scope ce fp XE) [] σ' H' s' → (∀ b ∈ fp, H' b = none) → ∀ b ∈ fp, FpOk (blkE X s3 H3 scope ce fp XE) [] H' b := fun {σ' H' s'} I' hn b hb =>
    ⟨hn b hb, (I'.ok.exf b hb).1, I'.ok.exfs b hb, .inl hb, fun x c e => (I'.ok.exf b hb).2 x c e, fun p hp => absurd (show p ∈ ([] : List (Addr × Obj)) ++ [] from hp) (by simp)⟩
  have loop : codeAny (model X.prog X.w) X.A (.compLoop (.ListComp elt [⟨tg, iter, ifs, 0⟩] scope pos) 0 (.ref it) (.ref D) ce) (postX (model X.prog X.w) X.A X.xe use Qf (.ref D) s3.heap.objs.size X.env.frame) s4 := by
    refine compLoop_any (fun n s' => ∃ i H', Inv (blkE X s3 H3 scope ce fp XE) [] (wipe σ (own.map (·.2))) H' s' ∧ tn i s'.heap ∧ (∀ b ∈ fp, H' b = none) ∧ W i n H') ?_ m0 ⟨0, H3, I4, st4, nfp, w0⟩
    rintro n s5 ⟨i, H5, I5, st5, n5, w5⟩
    rcases turn i n H5 w5 with ⟨stop, qq⟩ | ⟨go, Nx, hNx, step⟩
    · have td := T.done (blkE X s3 H3 scope ce fp XE) rfl rfl rfl hc i [] s5 _ H5 (fun _ _ => False) I5 (stat I5 n5) st5 stop
      refine thnF td fun r s6 ⟨hr, I6⟩ => ?_
      subst hr
      have I7 : Inv X pins σ H5 s6 := I3.call' (ch := fp) I6.os I6.base I6.hok I6.bare fun b hb => ⟨(f3 b hb).1.2.2.2.1, (f3 b hb).1.2.1, (f3 b hb).1.2.2.2.2.1, (f3 b hb).1.2.2.2.2.2⟩
      have nC : H5 s3.heap.objs.size = none := by
        have z : H5 ce.locals = none := I6.free
        rw [cL] at z
        exact z
      obtain ⟨m, hn, _⟩ := I6.loc
      have hn : s6.heap.Ns ce.locals m := hn
      rw [cL] at hn
      exact hRR D s3.heap.objs.size s6 m H5 I7 qq hn (I3.fpOk (Nat.le_refl _) nC)
    · have ti := T.item (blkE X s3 H3 scope ce fp XE) rfl rfl rfl hc i [] s5 _ H5 (fun _ _ => False) I5 (stat I5 n5) st5 go
      refine thnF ti fun r s6 ⟨u, hr, h6⟩ => ?_
      subst hr
      refine thnF h6 fun _ s7 ⟨x, H7, I7, r7, y7, st7, n7⟩ => ?_
      have I7' := I7.pinned (stat I7 n7) (T.obj _ _ st7)
      refine thnE hN' (pg.run _ s7 _ H7 x u _ I7' r7 (step x H7 y7)) fun _ s8 ⟨σ8, H8, I8, hw8, q8⟩ => ?_
      refine thnE hN' (pt.run _ s8 σ8 H8 _ I8 q8) fun b s9 ⟨H9, I9, q9⟩ => ?_
      have fin : ∀ {s' : Shared} {H' : Hp}, Inv (blkE X s3 H3 scope ce fp XE) ([] ++ pinsAt fp s7.heap) σ8 H' s' → Nx H' → ∃ m, m < n ∧ ∃ i H', Inv (blkE X s3 H3 scope ce fp XE) [] (wipe σ (own.map (·.2))) H' s' ∧ tn i s'.heap ∧ (∀ b ∈ fp, H' b = none) ∧ W i m H' := fun {s' H'} I' nx => by
        obtain ⟨m', hm, w'⟩ := hNx H' nx
        have pin' : ∀ b ∈ fp, ∀ o, s7.heap.get? b = some o → s'.heap.get? b = some o ∧ H' b = none := fun b hb o e =>
          let z := I'.pin (b, o) (List.mem_append_right _ (List.mem_append_right _ (mem_pinsAt hb e)))
          ⟨z.1, z.2.1⟩
        have hl : (wipe σ (own.map (·.2))).length = σ8.length := by rw [← hw8, wipe_length]
        refine ⟨m', hm, i + 1, H', (I'.unpinned (pins := [])).weak hl (fun j v e => ?_), T.keep _ _ _ st7 fun b hb o e => (pin' b hb o e).1, fun b hb => ?_, w'⟩
        · rw [← hw8] at e
          exact (wipe_some e).1
        · obtain ⟨o, e, _⟩ := T.obj _ _ st7 b hb
          exact (pin' b hb o e).2
      cases b with
      | false =>
        simp only [Bool.false_eq_true, if_false] at q9 ⊢
        exact fin I9 q9
      | true =>
        simp only [if_true] at q9 ⊢
        refine thnE hN' (pe.run _ s9 σ8 H9 _ I9 q9) fun z s10 ⟨yv, H10, I10, r10, acc, hD10, hz10, nx⟩ => ?_
        exact app_ok (X := blkE X s3 H3 scope ce fp XE) I10 hD10 hz10 r10 fun s11 I11 => fin I11 nx
  exact codeAny_compStart_list loop (T.self X.A 0 _ _ _ st4 loop)
theorem ps_setLcX {Wx : WX} {te : L2.St → TE} {i : Nat} {y : Str} {py : Pos} {elt tg iter : Expr} {ifs : List Expr} {scope : Scope} {own : List (Str × Nat)} {pos spos : Pos} {wi : TI} {g : TG} {tt : TT} (hstk : X.stack = X.env :: X.outer) (hfr : X.env.frame = some X.env.locals) (tk : Takes X Wx) (hc : X.calm = true) (hN : X.N.Nodup) (hy : X.N[i]? = some y) (hyl : X.env.scope.names.lookup y = some .local)
    (hsw : swapsWith (.ListComp elt [⟨tg, iter, ifs, 0⟩] scope pos) (some (.Name y py)) spos.line X.env = pure true) (hi : PI X tg iter wi) (ok : BlkOk X.N X.env.scope scope own)
    (hg : ∀ (s : Shared) (H : Hp) (C : Addr) (cl : List (Str × Addr)) (fp : List Addr) (xe : Value → Shared → Prop), PG (blkE X s H scope (compEnvC scope cl C X.env) fp xe) tg g) (ht : ∀ (s : Shared) (H : Hp) (C : Addr) (cl : List (Str × Addr)) (fp : List Addr) (xe : Value → Shared → Prop), PTs (blkE X s H scope (compEnvC scope cl C X.env) fp xe) ifs tt)
    (he : ∀ (σ : L2.St) (s : Shared) (H : Hp) (C : Addr) (cl : List (Str × Addr)) (fp : List Addr) (xe : Value → Shared → Prop), (∀ σ', PassesAt (L2.CX X.prog X.w) (blkE X s H scope (compEnvC scope cl C X.env) fp xe) σ' (fun cls d H' => Wx cls d σ H')) → PE (blkE X s H scope (compEnvC scope cl C X.env) fp xe) elt (te σ)) (hs : ∀ x, foldedSetIterable iter X.env x = pure x := by intro _; rfl) :
    PS X (.Assign [.Name y py] (.ListComp elt [⟨tg, iter, ifs, 0⟩] scope pos) spos) (tAsg (fun σ H Q => tLc wi g tt (te σ) (own.map (·.2)) σ H Q) (gName i)) := by
  refine ⟨fun pins s σ H D I h => ?_⟩
  rw [exec_Assign_Name_used _ _ _ _ hsw]
  refine wpAny_bind (wpAny_standAt (wpAny_bind ?_))
  show wpAny _ X.A (do let _ ← comprehension (.ListComp elt [⟨tg, iter, ifs, 0⟩] scope pos) scope X.env (firstIterPos [⟨tg, iter, ifs, 0⟩] pos) (newList []) false (eval iter X.env) (some (assign (.Name y py) X.env))) _ _ s
  have h : tLc wi g tt (te σ) (own.map (·.2)) σ H (fun x H1 => gName i x σ H1 D.nx) := h
  refine wpAny_bind (thn (lc_coreX (Qf := fun _ s' => SP X pins D .next s') hstk hfr tk hc hN I hi ok hg ht (he σ) hs h fun L C s' m H' I' q hn f => ?_) fun _ s' hq => wpAny_pure (wpAny_pure hq))
  show wpAny _ _ (assign (.Name y py) X.env (.ref L)) _ _ _
  refine wpAny_assign_Name (store_ok2 (v := V.ref L) I' hN hy (.inl hyl) rfl (fun s2 I2 ⟨a, sb, ha⟩ => ?_) (.inr hyl))
  obtain ⟨f0, f1, f2, f3, f4, f5⟩ := f
  have haC : C ≠ a := by
    rcases ha with z | z
    · rw [z]; exact f1
    · exact fun e => f4 y a z e.symm
  refine ⟨m, hn.sameBut sb haC, fun h3 sb3 => ?_⟩
  exact ⟨_, H', I2.turned (t' := s2.toks) (fun b o hb e => (sb3.2 b hb).trans e) f0 f1 f3 f4 f5, q⟩
end
end PL
end
section
namespace PL
open PySem PySem.Spec PyProof.Rows L2
def lcGoX (t : Tg) (ft : Rho → R Bool) (fe : Rho → R D) (r : Rho) : List D → R (List D)
  | [] => .ok []
  | d :: ds => (noE (setT t d r)).bnd fun r2 => (noE (ft r2)).bnd fun b => if b then (fe r2).bnd fun y => (imD y).bnd fun y => (lcGoX t ft fe r ds).bnd fun ys => .ok (y :: ys) else lcGoX t ft fe r ds
def fLcX (vs : List Nat) (t : Tg) (fi : Rho → R (List D)) (ft : Rho → R Bool) (fe : Rho → R D) (r : Rho) : R (List D) := (fi r).bnd fun ds => if decide (ds.length < sizeLine) then lcGoX t ft fe (wipeR r vs) ds else .stuck
abbrev WIn (E : WX) (s : St) : WX := fun cls d _ H => E cls d s H
theorem R_bnd_cons {x : R (List D)} {ys : List D} {y : D} : (x.bnd fun zs' => R.ok (y :: zs')).bnd (fun zs' => R.ok (ys ++ zs')) = x.bnd fun zs' => R.ok ((ys ++ [y]) ++ zs') := by
  cases x with
  | ok a => show R.ok (ys ++ y :: a) = R.ok ((ys ++ [y]) ++ a); rw [List.append_assoc]; rfl
  | err c => rfl
  | stuck => rfl
theorem imD_cases (y : D) : imD y = .ok y ∧ noOwn y = true ∨ imD y = .stuck := by
  unfold imD
  cases e : noOwn y with
  | true => exact .inl ⟨rfl, rfl⟩
  | false => exact .inr rfl
theorem x_noE_ok' {α : Type} (a : α) : noE (.ok a) = .ok a := rfl
theorem lc_redX {K : PySem.W.Frag} {mg : Str → Option Value} {E : WX} {vs : List Nat} {t : Tg} {fi : Rho → R (List D)} {ft : Rho → R Bool} {fe : Rho → R D} (hsl : ∀ i ∈ t.slots, i ∈ vs) {s : St} {H : Hp} {Q : VK} (hvs : ∀ i ∈ vs, i < s.length) (h : tN K mg E (fLcX vs t fi ft fe) s H Q) :
    tLc (tI K mg E true fi) (tG K t) (tT K mg EZ ft) (tE K mg (WIn E s) fe) vs s H Q := by
  obtain ⟨T, R, h⟩ := h
  unfold fLcX at h
  refine ⟨T, R, ?_⟩
  cases ei : fi T.r with
  | err c => rw [ei] at h; exact h
  | stuck => rw [ei] at h; exact h
  | ok ds =>
    rw [ei] at h
    intro G1 H1 eg eh nw1 R1 J B eB _ wk Dl hD
    have h1 : KE K mg E T s H (fun ds G' H' => ∀ p xs, H p = none → H' p = some (.lst xs) → G' p = none → RpA K G' xs ds → Q (.ref p) H') (if decide (ds.length < sizeLine) then lcGoX t ft fe (wipeR T.r vs) ds else .stuck) := h
    cases el : decide (ds.length < sizeLine) with
    | false => rw [el] at h1; exact h1.elim
    | true =>
      rw [el] at h1
      have len := of_decide_eq_true el
      rw [if_pos rfl] at h1
      generalize eo : lcGoX t ft fe (wipeR T.r vs) ds = tot at h1
      have nst : tot ≠ .stuck := fun e => by rw [e] at h1; exact h1
      have hB : B Dl = none := eB.free hD
      have h0D : T.H0 Dl = none := R1.hh.free hD
      have own1 : ∀ i, ¬ OwnAt (wipeR T.r vs) (L2.wipe s vs) i Dl := fun i o => by
        obtain ⟨⟨u, e⟩, _⟩ := own_in (R1.wipe vs hvs) o
        rw [e] at hD
        cases hD
      refine lc_it wk (fun i H' => ∃ G' acc ys, Rel K T.G0 T.H0 (wipeR T.r vs) (L2.wipe s vs) G' H' ∧ Ex G1 G' ∧ Ex H1 H' ∧ Nw G1 G' H1 ∧ Ex B H' ∧ H' Dl = some (.lst acc) ∧ G' Dl = none ∧ RpA K G' acc ys ∧ (lcGoX t ft fe (wipeR T.r vs) (ds.drop i)).bnd (fun zs' => .ok (ys ++ zs')) = tot ∧ ys.length ≤ i ∧ Rel K T.G0 T.H0 T.r s G' H') ?_ ?_ ?_ ?_
      · exact ⟨G1, [], [], (R1.wipe vs hvs).lay hD, Same.refl _, ex_new hD, Nw.refl _ _, ex_into eB hB, upd_same, R1.gf _ hD, .nil, by rw [List.drop_zero, eo]; cases tot <;> rfl, Nat.le_refl _, R1.lay hD⟩
      · rintro i H' _ ⟨G', acc, ys, _, _, _, _, e, _⟩
        exact e
      · rintro i x H2 H3 hi ⟨G', acc, ys, R2, eg2, eh2, nw2, eB2, hl, hg, ra, go, yl, R2o⟩ ⟨d, hd, yd⟩
        have dr : ds.drop i = d :: ds.drop (i + 1) := by
          have hlt := (List.getElem?_eq_some_iff.mp hd).1
          rw [List.drop_eq_getElem_cons hlt]
          congr 1
          exact (List.getElem?_eq_some_iff.mp hd).2
        rw [dr] at go
        simp only [lcGoX] at go
        cases g1 : setT t d (wipeR T.r vs) with
        | err c => rw [g1] at go; exact absurd go.symm nst
        | stuck => rw [g1] at go; exact absurd go.symm nst
        | ok r2 =>
        rw [g1, x_noE_ok', bnd_ok] at go
        cases g2 : ft r2 with
        | err c => rw [g2] at go; exact absurd go.symm nst
        | stuck => rw [g2] at go; exact absurd go.symm nst
        | ok b =>
        rw [g2, x_noE_ok', bnd_ok] at go
        obtain ⟨G3, R3, R3o, rx, eg3, eh3, nw3⟩ : ∃ G3, Rel K T.G0 T.H0 (wipeR T.r vs) (L2.wipe s vs) G3 H3 ∧ Rel K T.G0 T.H0 T.r s G3 H3 ∧ RpO K G3 x d ∧ Ex G' G3 ∧ Ex H2 H3 ∧ Nw G' G3 H2 := by
          rcases yd with ⟨e1, e2⟩ | ⟨p, ys, es, e1, e2, e3, e4, e5⟩
          · subst e1
            exact ⟨G', R2, R2o, e2.mono eg2, Same.refl _, Same.refl _, Nw.refl _ _⟩
          · subst e1 e3 e4
            have xg : Ex G' (upd G' p (.tup ys)) := ex_new (R2.gf _ e2)
            exact ⟨upd G' p (.tup ys), R2.new e2, R2o.new e2, .pure (.tup (SqT.of upd_same) ((e5.mono eg2).mono xg)), xg, ex_new e2, Nw.new e2⟩
        have ag := setT_agree g1
        refine ⟨⟨T.G0, T.H0, wipeR T.r vs, G3⟩, d, R3, rx, ?_⟩
        show (match setT t d (wipeR T.r vs) with
          | .ok r' => _
          | _ => False)
        rw [g1]
        intro s4 R4 a4
        have w4 : L2.wipe s4 vs = L2.wipe s vs := (Agree.wipe a4 hsl).trans (wipe_idem s vs)
        have wr : wipeR r2 vs = wipeR T.r vs := (AgreeR.wipe ag hsl).trans (wipeR_idem T.r vs)
        refine ⟨w4, ⟨T.G0, T.H0, r2, G3⟩, R4, ?_⟩
        show KE K mg EZ ⟨T.G0, T.H0, r2, G3⟩ s4 H3 _ (ft r2)
        rw [g2]
        intro G5 H5 eg5 eh5 nw5 R5
        have hl3 : H5 Dl = some (.lst acc) := eh5 _ _ (eh3 _ _ hl)
        have g5D : G5 Dl = none := by
          cases q : G5 Dl with
          | none => rfl
          | some o =>
            cases q3 : G3 Dl with
            | none =>
              have z := nw5.st Dl o q q3
              rw [eh3 _ _ hl] at z
              cases z
            | some o3 =>
              have z := nw3.st Dl o3 q3 hg
              rw [hl] at z
              cases z
        have stepO : ∀ {G6 H6 : Hp}, Rel K T.G0 T.H0 r2 s4 G6 H6 → Ex G5 G6 → Ex H5 H6 → Nw G5 G6 H5 → Rel K T.G0 T.H0 T.r s G6 H6 ∧ Rel K T.G0 T.H0 (wipeR T.r vs) (L2.wipe s vs) G6 H6 := fun {G6 H6} R6 e1 e2 n6 => by
          have RW := R6.wipe vs (fun i hi => by rw [a4.1, wipe_length]; exact hvs i hi)
          rw [wr, w4] at RW
          have n36 : Nw G3 G6 H3 := Nw.trans nw5 n6 eh5
          exact ⟨R3o.step (eg5.trans e1) (eh5.trans e2) R6.gh n36, RW⟩
        cases b with
        | false =>
          show ∃ G' acc ys, _
          obtain ⟨RO, RW⟩ := stepO R5 (Same.refl _) (Same.refl _) (Nw.refl _ _)
          refine ⟨G5, acc, ys, RW, (eg2.trans eg3).trans eg5, (eh2.trans eh3).trans eh5, ?_, (eB2.trans eh3).trans eh5, hl3, g5D, (ra.mono eg3).mono eg5, go, by omega, RO⟩
          exact Nw.trans (Nw.trans nw2 nw3 eh2) nw5 (eh2.trans eh3)
        | true =>
          rw [if_pos rfl] at go
          show tE K mg (WIn E s) fe s4 H5 _
          refine ⟨⟨T.G0, T.H0, r2, G5⟩, R5, ?_⟩
          show KE K mg (WIn E s) ⟨T.G0, T.H0, r2, G5⟩ s4 H5 _ (fe r2)
          cases g3 : fe r2 with
          | stuck => rw [g3] at go; exact absurd go.symm nst
          | err c =>
            rw [g3] at go
            have e : PL.R.err c = tot := go
            rw [← e] at h1
            exact fun H' e0 e' => h1 H' e0 ((((eh.trans eh2).trans eh3).trans eh5).trans e')
          | ok y =>
          rw [g3, bnd_ok] at go
          rcases imD_cases y with ⟨ei, no⟩ | ei
          case inr => rw [ei] at go; exact absurd go.symm nst
          rw [ei, bnd_ok, R_bnd_cons] at go
          intro G6 H6 eg6 eh6 nw6 R6 v rv
          have hl6 : H6 Dl = some (.lst acc) := eh6 _ _ hl3
          have g6D : G6 Dl = none := by
            cases q : G6 Dl with
            | none => rfl
            | some o =>
              have z := nw6.st Dl o q g5D
              rw [hl3] at z
              cases z
          obtain ⟨RO, RW⟩ := stepO R6 eg6 eh6 nw6
          have ra6 : RpA K G6 acc ys := ((ra.mono eg3).mono eg5).mono eg6
          have own2 : ∀ i, ¬ OwnAt T.r s i Dl := fun i o => by
            obtain ⟨⟨u, e⟩, _⟩ := own_in R1 o
            rw [e] at hD
            cases hD
          refine ⟨acc, hl6, ?_, G6, acc ++ [v], ys ++ [y], RW.mut g6D h0D own1, ((eg2.trans eg3).trans eg5).trans eg6, ?_, ?_, ?_, upd_same, g6D, ra6.snoc (RpE.im no rv), go, ?_, RO.mut g6D h0D own2⟩
          · have := ra.length
            omega
          · exact ex_into (((eh2.trans eh3).trans eh5).trans eh6) hD
          · exact Nw.trans (Nw.trans (Nw.trans nw2 nw3 eh2) nw5 (eh2.trans eh3)) nw6 ((eh2.trans eh3).trans eh5)
          · exact ex_into (((eB2.trans eh3).trans eh5).trans eh6) hB
          · rw [List.length_append]
            simp only [List.length_cons, List.length_nil]
            omega
      · rintro H' ⟨G', acc, ys, R2, eg2, eh2, nw2, eB2, hl, hg, ra, go, yl, R2o⟩
        have dn : ds.drop ds.length = [] := List.drop_length
        rw [dn] at go
        have e : PL.R.ok ys = tot := by rw [← go]; show PL.R.ok ys = PL.R.ok (ys ++ []); rw [List.append_nil]
        rw [← e] at h1
        exact h1 G' H' (eg.trans eg2) (eh.trans eh2) (Nw.trans nw1 nw2 eh) R2o Dl acc (eh.free hD) hl hg ra
section
variable {X : Cx} {E : WX} {pos : Pos} {elt tg iter : Expr} {ifs : List Expr} {scope : Scope} {fi : Rho → R (List D)} {ft : Rho → R Bool} {fe : Rho → R D} {t : Tg}
end
section
variable {X : Cx} {E : WX} {pos : Pos} {elt tg iter : Expr} {ifs : List Expr} {scope : Scope} {fi : Rho → R (List D)} {ft : Rho → R Bool} {fe : Rho → R D} {t : Tg} {y : Str} {py spos : Pos}
theorem ss_setLcX (i : Nat) (own : List (Str × Nat)) (hstk : X.stack = X.env :: X.outer) (hfr : X.env.frame = some X.env.locals) (tk : Takes X E) (hc : X.calm = true) (hN : X.N.Nodup) (hi : EI X E true tg iter fi) (ok : BlkOk X.N X.env.scope scope own)
    (hg : ∀ (s : Shared) (H : Hp) (C : Addr) (cl : List (Str × Addr)) (fp : List Addr) (xe : Value → Shared → Prop), EG (blkE X s H scope (compEnvC scope cl C X.env) fp xe) tg t) (ht : ∀ (s : Shared) (H : Hp) (C : Addr) (cl : List (Str × Addr)) (fp : List Addr) (xe : Value → Shared → Prop), ETs (blkE X s H scope (compEnvC scope cl C X.env) fp xe) EZ ifs ft)
    (he : ∀ (σ : L2.St) (s : Shared) (H : Hp) (C : Addr) (cl : List (Str × Addr)) (fp : List Addr) (xe : Value → Shared → Prop), (∀ σ', PassesAt (L2.CX X.prog X.w) (blkE X s H scope (compEnvC scope cl C X.env) fp xe) σ' (WE (WIn E σ) σ')) → EV (blkE X s H scope (compEnvC scope cl C X.env) fp xe) (WIn E σ) elt fe) (hy : X.N[i]? = some y := by rfl) (hyl : X.env.scope.names.lookup y = some .local := by rfl)
    (hsw : swapsWith (.ListComp elt [⟨tg, iter, ifs, 0⟩] scope pos) (some (.Name y py)) spos.line X.env = pure true := by exact sw_true rfl rfl rfl (by decide +kernel)) (hsl : (t.slots.all fun i => (own.map (·.2)).contains i) = true := by rfl) (hs : ∀ x, foldedSetIterable iter X.env x = pure x := by intro _; rfl) :
    SS X E (.Assign [.Name y py] (.ListComp elt [⟨tg, iter, ifs, 0⟩] scope pos) spos) (fAsg (.nm i) (fL (fLcX (own.map (·.2)) t fi ft fe))) :=
  ps_impL (ps_setLcX (g := tG X.K t) (tt := tT X.K X.mg EZ ft) (Wx := E) (te := fun σ => tE X.K X.mg (WIn E σ) fe) hstk hfr tk hc hN hy hyl hsw hi ok hg ht he hs) fun Z s H sl h => lc_redX (fun i hi => by
    have := List.all_eq_true.mp hsl i hi
    simpa using this) (blk_lt ok sl) (tN_tE (tE_imp (asg_red h) fun v H q => tG_nm (n_lt hy sl) q))
end
end PL
end
section
open PySem PySem.Spec PyProof.Rows L2
namespace PL.G
noncomputable def B_fraction_text : Rho → R Fl := (fRet (fIf (fTest (fBin eqD (fBin ixD (fVar 0) (fK (.int 1))) (fK (.int 1)))) (fCallB strD (fConsB (fBin ixD (fVar 0) (fK (.int 0))) fNil)) (fBin addD (fBin addD (fCallB strD (fConsB (fBin ixD (fVar 0) (fK (.int 0))) fNil)) (fK (.str (Str.ofString "/")))) (fCallB strD (fConsB (fBin ixD (fVar 0) (fK (.int 1))) fNil)))))
noncomputable def F_fraction_text : List D → R D := runF B_fraction_text 1
noncomputable def B_text_of : Rho → R Fl := (fRet (fJoin (fK (.str (Str.ofString " + "))) (fL (fLc [1, 2] (.tp [(.nm 1), (.nm 2)]) (fIt true (fVar 0)) (fun _ => .ok true) (fBin addD (fBin addD (fVar 1) (fK (.str (Str.ofString " ")))) (fCall 1 F_fraction_text (fCons (fVar 2) fNil)))))))
noncomputable def F_text_of : List D → R D := runF B_text_of 3
noncomputable def B_shares_text : Rho → R Fl := (fSeq (fExpr (fCall 1 F_look_book (fCons (fVar 0) fNil)))
    (fSeq (fExpr (fCall 2 F_look_shares (fCons (fVar 0) (fCons (fVar 1) fNil))))
    (fRet (fCall 1 F_text_of (fCons (fVar 1) fNil)))))
noncomputable def F_shares_text : List D → R D := runF B_shares_text 2
noncomputable def B_number_in : Rho → R Fl := (fSeq (fIfS (fOr (fTest (fBin eqD (fVar 0) (fK (.str (Str.ofString ""))))) (fNot (fTest (fCallB (allD fun bs => bs.all id) (fConsB (fL (fLc [1] (.nm 1) (fIt true (fVar 0)) (fun _ => .ok true) (fBin (inG false) (fVar 1) (fK d_FIGURES)))) fNil))))) (fun _ => .err (Str.ofString "NoText")) fNx)
    (fRet (fCallB intTD (fConsB (fVar 0) fNil))))
noncomputable def F_number_in : List D → R D := runF B_number_in 2
noncomputable def B_share_in : Rho → R Fl := (fSeq (fAsg (.nm 1) (fL (fSplit (fVar 0) (fK (.str (Str.ofString " "))))))
    (fSeq (fIfS (fTest (fBin neD (fCallB lenD (fConsB (fVar 1) fNil)) (fK (.int 2)))) (fun _ => .err (Str.ofString "NoText")) fNx)
    (fSeq (fAsg (.nm 2) (fL (fLcX [3] (.nm 3) (fIt true (fL (fSplit (fBin ixD (fVar 1) (fK (.int 1))) (fK (.str (Str.ofString "/")))))) (fun _ => .ok true) (fCall 1 F_number_in (fCons (fVar 3) fNil)))))
    (fSeq (fIfS (fTest (fBin gtI (fCallB lenD (fConsB (fVar 2) fNil)) (fK (.int 2)))) (fun _ => .err (Str.ofString "NoText")) fNx)
    (fRet (fTup (fCons (fBin ixD (fVar 1) (fK (.int 0))) (fCons (fIf (fTest (fBin eqD (fCallB lenD (fConsB (fVar 2) fNil)) (fK (.int 2)))) (fCallB tupleD (fConsB (fVar 2) fNil)) (fTup (fCons (fBin ixD (fVar 2) (fK (.int 0))) (fCons (fK (.int 1)) fNil)))) fNil))))))))
noncomputable def F_share_in : List D → R D := runF B_share_in 4
noncomputable def B_read_shares : Rho → R Fl := (fSeq (fExpr (fCall 1 F_look_book (fCons (fVar 0) fNil)))
    (fSeq (fIfS (fNot (fTest (fIsi ["str"] (fVar 1)))) (fun _ => .err (Str.ofString "NoText")) fNx)
    (fSeq (fAsg (.nm 2) (fL (fLcX [3] (.nm 3) (fIt true (fL (fSplit (fVar 1) (fK (.str (Str.ofString " + ")))))) (fun _ => .ok true) (fCall 1 F_share_in (fCons (fVar 3) fNil)))))
    (fSeq (fIfS (fOr (fNot (fTest (fCall 2 F_are_shares_in (fCons (fVar 0) (fCons (fVar 2) fNil))))) (fTest (fBin neD (fCall 1 F_text_of (fCons (fVar 2) fNil)) (fVar 1)))) (fun _ => .err (Str.ofString "NoText")) fNx)
    (fRet (fVar 2))))))
noncomputable def F_read_shares : List D → R D := runF B_read_shares 4
end PL.G
end
section
open PySem PySem.Spec PyProof.Rows L2 PL.G
namespace PL.W60
def ecs : List Str := [(Str.ofString "NoBook"), (Str.ofString "NoRow"), (Str.ofString "NoBoard"), (Str.ofString "NoStand"), (Str.ofString "NoShares"), (Str.ofString "NoLayer"), (Str.ofString "NoPlan"), (Str.ofString "NoNumber"), (Str.ofString "NoWay"), (Str.ofString "NoText")]
def exs : List Str := [(Str.ofString "NoBook"), (Str.ofString "NoRow"), (Str.ofString "NoBoard"), (Str.ofString "NoStand"), (Str.ofString "NoShares"), (Str.ofString "NoLayer"), (Str.ofString "NoPlan"), (Str.ofString "NoNumber"), (Str.ofString "NoWay"), (Str.ofString "NoText"), (Str.ofString "BlendError")]
def topS (i : Nat) : Stmt := PySem.Challenge.pw_blendstands_k60_whole_texts.main.body.getD i (.Pass ⟨0, 0, 0, 0⟩)
abbrev s_is_whole : Stmt := topS 15
abbrev s_greatest_in : Stmt := topS 16
abbrev s_is_name : Stmt := topS 25
abbrev s_fraction_text : Stmt := topS 34
abbrev s_number_in : Stmt := topS 37
abbrev s_u_law_cell : Stmt := topS 41
abbrev s_u_law_spoilt : Stmt := topS 43
abbrev s_u_law_word : Stmt := topS 44
noncomputable def B_u_law_word : Rho → R Fl := (fSeq (fAsgN 1 (fLst (fCons (fIsE ecs (Str.ofString "NoBoard") (fVar 0)) (fCons (fIsE ecs (Str.ofString "NoBook") (fVar 0)) (fCons (fIsE ecs (Str.ofString "NoLayer") (fVar 0)) fNil)))))
    (fSeq (fExt 1 (fL (fLst (fCons (fIsE ecs (Str.ofString "NoNumber") (fVar 0)) fNil))))
    (fSeq (fExt 1 (fL (fLst (fCons (fIsE ecs (Str.ofString "NoPlan") (fVar 0)) (fCons (fIsE ecs (Str.ofString "NoRow") (fVar 0)) (fCons (fIsE ecs (Str.ofString "NoShares") (fVar 0)) fNil))))))
    (fSeq (fExt 1 (fL (fLst (fCons (fIsE ecs (Str.ofString "NoStand") (fVar 0)) (fCons (fIsE ecs (Str.ofString "NoText") (fVar 0)) (fCons (fIsE ecs (Str.ofString "NoWay") (fVar 0)) fNil))))))
    (fSeq (fIfS (fOr (fTest (fBin neD (fBm cntD true (fVar 1)) (fK (.int 1)))) (fOr (fNot (fTest (fIsE ecs (Str.ofString "ValueError") (fVar 0)))) (fNot (fTest (fIsE ecs (Str.ofString "BlendError") (fVar 0)))))) (fRet (fK (.str (Str.ofString "wrong")))) fNx)
    (fSeq (fAsgN 2 (fLst (fCons (fK (.str (Str.ofString "no board"))) (fCons (fK (.str (Str.ofString "no book"))) (fCons (fK (.str (Str.ofString "no layer"))) (fCons (fK (.str (Str.ofString "no number"))) (fCons (fK (.str (Str.ofString "no plan"))) (fCons (fK (.str (Str.ofString "no row"))) (fCons (fK (.str (Str.ofString "no shares"))) fNil)))))))))
    (fSeq (fExt 2 (fL (fLst (fCons (fK (.str (Str.ofString "no stand"))) (fCons (fK (.str (Str.ofString "no text"))) (fCons (fK (.str (Str.ofString "no way"))) fNil))))))
    (fRet (fBin ixD (fVar 2) (fBm idxD true (fVar 1)))))))))))
noncomputable def F_u_law_word : List D → R D := runF B_u_law_word 3
abbrev s_u_law_low : Stmt := topS 45
abbrev s_u_law_names : Stmt := topS 48
abbrev s_u_law_written : Stmt := topS 54
noncomputable def B_u_law_written : Rho → R Fl := (fSeq (fAsg (.nm 1) (fK (.str (Str.ofString ""))))
    (fSeq (fFor (.tp [(.nm 2), (.nm 3)]) (fIt false (fVar 0)) (fSeq (fAsg (.nm 1) (fBin addD (fBin addD (fBin addD (fBin addD (fVar 1) (fIf (fTest (fBin neD (fVar 1) (fK (.str (Str.ofString ""))))) (fK (.str (Str.ofString " + "))) (fK (.str (Str.ofString ""))))) (fVar 2)) (fK (.str (Str.ofString " ")))) (fCallB strD (fConsB (fBin ixD (fVar 3) (fK (.int 0))) fNil))))
    (fAsg (.nm 1) (fBin addD (fVar 1) (fIf (fTest (fBin gtI (fBin ixD (fVar 3) (fK (.int 1))) (fK (.int 1)))) (fBin addD (fK (.str (Str.ofString "/"))) (fCallB strD (fConsB (fBin ixD (fVar 3) (fK (.int 1))) fNil))) (fK (.str (Str.ofString ""))))))))
    (fRet (fVar 1))))
noncomputable def F_u_law_written : List D → R D := runF B_u_law_written 4
abbrev s_share : Stmt := topS 17
abbrev s_is_fraction : Stmt := topS 18
abbrev s_is_stand : Stmt := topS 26
abbrev s_has_name : Stmt := topS 29
abbrev s_text_of : Stmt := topS 35
abbrev s_share_in : Stmt := topS 38
abbrev s_u_law_pick : Stmt := topS 42
abbrev s_u_law_sum : Stmt := topS 46
abbrev s_plus : Stmt := topS 19
abbrev s_is_book : Stmt := topS 27
abbrev s_u_law_book : Stmt := topS 47
abbrev s_u_law_shares : Stmt := topS 49
abbrev s_u_law_gathered : Stmt := topS 50
abbrev s_u_law_worths : Stmt := topS 52
abbrev s_u_law_read : Stmt := topS 55
noncomputable def B_u_law_read : Rho → R Fl := (fSeq (fParX [3, 4] (fConsO (fLst fNil) (fConsI (fK (.str (Str.ofString ""))) (fun _ => .ok []))))
    (fSeq (fFor (.nm 2) (fIt false (fL (fSplit (fVar 1) (fK (.str (Str.ofString " + ")))))) (fSeq (fAsg (.nm 5) (fL (fSplit (fVar 2) (fK (.str (Str.ofString " "))))))
    (fSeq (fAsg (.nm 6) (fL (fSplit (fBin ixD (fVar 5) (fNeg (fK (.int 1)))) (fK (.str (Str.ofString "/"))))))
    (fSeq (fIfS (fOr (fTest (fBin neD (fCallB lenD (fConsB (fVar 5) fNil)) (fK (.int 2)))) (fOr (fTest (fBin (inG true) (fBin ixD (fVar 5) (fK (.int 0))) (fCall 1 F_u_law_names (fCons (fVar 0) fNil)))) (fOr (fNot (fTest (fBin ltD (fVar 4) (fBin ixD (fVar 5) (fK (.int 0)))))) (fTest (fBin gtI (fCallB lenD (fConsB (fVar 6) fNil)) (fK (.int 2))))))) (fRet (fK (.str (Str.ofString "no text")))) fNx)
    (fSeq (fFor (.nm 7) (fIt false (fVar 6)) (fIfS (fOr (fTest (fBin eqD (fVar 7) (fK (.str (Str.ofString ""))))) (fOr (fTest (fBin neD (fL (fLc [9] (.nm 9) (fIt true (fVar 7)) (fNot (fTest (fChain leD leD (fK (.str (Str.ofString "0"))) (fVar 9) (fK (.str (Str.ofString "9")))))) (fVar 9))) (fL (fLst fNil)))) (fTest (fBin eqD (fBin ixD (fVar 7) (fK (.int 0))) (fK (.str (Str.ofString "0"))))))) (fRet (fK (.str (Str.ofString "no text")))) fNx))
    (fSeq (fAsg (.nm 8) (fTup (fCons (fCallB intTD (fConsB (fBin ixD (fVar 6) (fK (.int 0))) fNil)) (fCons (fIf (fTest (fBin eqD (fCallB lenD (fConsB (fVar 6) fNil)) (fK (.int 2)))) (fCallB intTD (fConsB (fBin ixD (fVar 6) (fK (.int 1))) fNil)) (fK (.int 1))) fNil))))
    (fSeq (fIfS (fOr (fTest (fBin neD (fCall 2 F_u_law_low (fCons (fBin ixD (fVar 8) (fK (.int 0))) (fCons (fBin ixD (fVar 8) (fK (.int 1))) fNil))) (fVar 8))) (fAnd (fTest (fBin eqD (fCallB lenD (fConsB (fVar 6) fNil)) (fK (.int 2)))) (fTest (fBin eqD (fBin ixD (fVar 8) (fK (.int 1))) (fK (.int 1)))))) (fRet (fK (.str (Str.ofString "no text")))) fNx)
    (fSeq (fAsg (.nm 4) (fBin ixD (fVar 5) (fK (.int 0))))
    (fApp 3 (fTup (fCons (fVar 4) (fCons (fVar 8) fNil))))))))))))
    (fFrz 3 (fRet (fIf (fTest (fBin eqD (fCall 1 F_u_law_sum (fCons (fL (fLc [10, 8] (.tp [(.nm 10), (.nm 8)]) (fIt true (fVar 3)) (fun _ => .ok true) (fVar 8))) fNil)) (fTup (fCons (fK (.int 1)) (fCons (fK (.int 1)) fNil))))) (fVar 3) (fK (.str (Str.ofString "no text"))))))))
noncomputable def F_u_law_read : List D → R D := runF B_u_law_read 11
abbrev s_summed : Stmt := topS 20
abbrev s_look_book : Stmt := topS 28
abbrev s_u_law_led : Stmt := topS 51
abbrev s_are_shares_in : Stmt := topS 30
abbrev s_look_shares : Stmt := topS 31
abbrev s_read_shares : Stmt := topS 39
abbrev s_shares_text : Stmt := topS 36
abbrev s_u_law_do : Stmt := topS 53
noncomputable def B_u_law_do : Rho → R Fl := (fSeq (fAsg (.nm 3) (fK .non))
    (fSeq (fAsg (.nm 4) (fK .non))
    (fSeq (fTry 5 3 ecs (fAsg (.nm 4) (fIf (fTest (fBin eqD (fVar 0) (fK (.int 0)))) (fCall 2 F_shares_text (fCons (fVar 1) (fCons (fVar 2) fNil))) (fCall 2 F_read_shares (fCons (fVar 1) (fCons (fVar 2) fNil))))))
    (fSeq (fIfS (fTest (fBin isD (fVar 3) (fK .non))) (fRet (fVar 4)) fNx)
    (fRet (fCall 1 F_u_law_word (fCons (fVar 3) fNil)))))))
noncomputable def F_u_law_do : List D → R D := runF B_u_law_do 6
abbrev s_law : Stmt := topS 56
noncomputable def B_law : Rho → R Fl := (fSeq (fAsg (.nm 1) (fCall 2 F_u_law_book (fCons (fVar 0) (fCons (fK (.int 10)) fNil))))
    (fSeq (fAsgN 2 (fLc [7] (.nm 7) (fRg rangeD1 (fCons (fK (.int 2)) fNil)) (fun _ => .ok true) (fCall 3 F_u_law_shares (fCons (fVar 0) (fCons (fBin addD (fK (.int 80)) (fBin mulD (fK (.int 10)) (fVar 7))) (fCons (fVar 1) fNil))))))
    (fSeq (fApp 2 (fCall 3 F_u_law_led (fCons (fBin ixD (fVar 2) (fK (.int 0))) (fCons (fBin ixD (fVar 2) (fK (.int 1))) (fCons (fTup (fCons (fK (.int 1)) (fCons (fK (.int 3)) fNil))) fNil)))))
    (fFrz 2 (fSeq (fFor (.nm 3) (fIt false (fVar 2)) (fSeq (fAsg (.nm 6) (fCall 1 F_u_law_written (fCons (fVar 3) fNil)))
    (fSeq (fIfS (fOr (fTest (fBin neD (fCall 3 F_u_law_do (fCons (fK (.int 0)) (fCons (fVar 1) (fCons (fVar 3) fNil)))) (fVar 6))) (fTest (fBin neD (fCall 3 F_u_law_do (fCons (fK (.int 0)) (fCons (fVar 1) (fCons (fCallB tupleD (fConsB (fVar 3) fNil)) fNil)))) (fVar 6)))) (fRet (fK (.bl false))) fNx)
    (fSeq (fIfS (fTest (fBin neD (fCall 3 F_u_law_do (fCons (fK (.int 1)) (fCons (fVar 1) (fCons (fVar 6) fNil)))) (fVar 3))) (fRet (fK (.bl false))) fNx)
    (fFor (.nm 7) (fRg rangeD1 (fCons (fK (.int 4)) fNil)) (fSeq (fAsg (.nm 8) (fCall 3 F_u_law_spoilt (fCons (fVar 6) (fCons (fCall 3 F_u_law_pick (fCons (fVar 0) (fCons (fBin addD (fK (.int 200)) (fVar 7)) (fCons (fBin powI (fK (.int 10)) (fK (.int 9))) fNil)))) (fCons (fBin ixD (fL (fLst (fCons (fK (.str (Str.ofString "0123/ +"))) (fCons (fK (.str (Str.ofString "awz -_A"))) fNil)))) (fBin modI (fVar 7) (fK (.int 2)))) fNil)))))
    (fIfS (fTest (fBin neD (fCall 3 F_u_law_do (fCons (fK (.int 1)) (fCons (fVar 1) (fCons (fVar 8) fNil)))) (fCall 2 F_u_law_read (fCons (fVar 1) (fCons (fVar 8) fNil))))) (fRet (fK (.bl false))) fNx)))))))
    (fSeq (fAsg (.nm 4) (fBin ixD (fBin ixD (fVar 1) (fK (.int 0))) (fK (.int 0))))
    (fSeq (fAsgN 5 (fLst (fCons (fK (.str (Str.ofString ""))) (fCons (fVar 4) (fCons (fBin addD (fVar 4) (fK (.str (Str.ofString " 1/1")))) (fCons (fBin addD (fVar 4) (fK (.str (Str.ofString " 01")))) (fCons (fBin addD (fVar 4) (fK (.str (Str.ofString " 1 ")))) (fCons (fBin addD (fBin addD (fK (.str (Str.ofString " "))) (fVar 4)) (fK (.str (Str.ofString " 1")))) (fCons (fBin addD (fVar 4) (fK (.str (Str.ofString " 2/2")))) fNil)))))))))
    (fSeq (fExt 5 (fL (fLst (fCons (fBin addD (fVar 4) (fK (.str (Str.ofString " 1/2")))) (fCons (fBin addD (fVar 4) (fK (.str (Str.ofString " +1")))) fNil)))))
    (fSeq (fExt 5 (fL (fLst (fCons (fBin addD (fVar 4) (fK (.str (Str.ofString " 1 + ")))) (fCons (fBin addD (fVar 4) (fK (.str (Str.ofString "  1")))) (fCons (fK (.str (Str.ofString "none 1"))) (fCons (fBin addD (fVar 4) (fK (.str (Str.ofString " 1/")))) (fCons (fBin addD (fVar 4) (fK (.str (Str.ofString " /1")))) fNil))))))))
    (fSeq (fExt 5 (fL (fLst (fCons (fBin addD (fBin addD (fBin addD (fVar 4) (fK (.str (Str.ofString " 1/2 + ")))) (fVar 4)) (fK (.str (Str.ofString " 1/2")))) (fCons (fBin addD (fVar 4) (fK (.str (Str.ofString " 1\n")))) fNil)))))
    (fSeq (fExt 5 (fL (fLst (fCons (fBin addD (fBin addD (fBin addD (fVar 4) (fK (.str (Str.ofString " 1 + ")))) (fVar 4)) (fK (.str (Str.ofString " 0")))) (fCons (fBin addD (fVar 4) (fK (.str (Str.ofString " 2 + z -1")))) (fCons (fK .non) (fCons (fK (.int 5)) (fCons (fL (fLst (fCons (fTup (fCons (fVar 4) (fCons (fTup (fCons (fK (.int 1)) (fCons (fK (.int 1)) fNil))) fNil))) fNil))) (fCons (fTup (fCons (fVar 4) (fCons (fK (.str (Str.ofString "1"))) fNil))) fNil)))))))))
    (fSeq (fIfS (fTest (fBin neD (fL (fLc [6] (.nm 6) (fIt true (fVar 5)) (fun _ => .ok true) (fCall 3 F_u_law_do (fCons (fK (.int 1)) (fCons (fVar 1) (fCons (fVar 6) fNil)))))) (fBin mulD (fL (fLst (fCons (fK (.str (Str.ofString "no text"))) fNil))) (fK (.int 22))))) (fRet (fK (.bl false))) fNx)
    (fSeq (fIfS (fTest (fBin neD (fCall 3 F_u_law_do (fCons (fK (.int 1)) (fCons (fVar 1) (fCons (fBin addD (fVar 4) (fK (.str (Str.ofString " 1")))) fNil)))) (fL (fLst (fCons (fTup (fCons (fVar 4) (fCons (fTup (fCons (fK (.int 1)) (fCons (fK (.int 1)) fNil))) fNil))) fNil))))) (fRet (fK (.bl false))) fNx)
    (fSeq (fAsgN 5 (fLst (fCons (fK .non) (fCons (fL (fLst fNil)) (fCons (fL (fLst (fCons (fTup (fCons (fVar 4) (fCons (fTup (fCons (fK (.int 1)) (fCons (fK (.int 2)) fNil))) fNil))) fNil))) (fCons (fBin addD (fVar 4) (fK (.str (Str.ofString " 1")))) (fCons (fL (fLst (fCons (fTup (fCons (fVar 4) (fCons (fK (.int 1)) fNil))) fNil))) (fCons (fL (fLst (fCons (fTup (fCons (fK (.str (Str.ofString "none"))) (fCons (fTup (fCons (fK (.int 1)) (fCons (fK (.int 1)) fNil))) fNil))) fNil))) fNil))))))))
    (fSeq (fIfS (fTest (fBin neD (fL (fLc [9] (.nm 9) (fIt true (fVar 5)) (fun _ => .ok true) (fCall 3 F_u_law_do (fCons (fK (.int 0)) (fCons (fVar 1) (fCons (fVar 9) fNil)))))) (fBin mulD (fL (fLst (fCons (fK (.str (Str.ofString "no shares"))) fNil))) (fK (.int 6))))) (fRet (fK (.bl false))) fNx)
    (fRet (fBin eqD (fL (fLc [10] (.nm 10) (fRg rangeD1 (fCons (fK (.int 2)) fNil)) (fun _ => .ok true) (fCall 3 F_u_law_do (fCons (fVar 10) (fCons (fK .non) (fCons (fK .non) fNil)))))) (fBin mulD (fL (fLst (fCons (fK (.str (Str.ofString "no book"))) fNil))) (fK (.int 2))))))))))))))))))))
noncomputable def F_law : List D → R D := runF B_law 11
end PL.W60
end
section
open PySem PySem.Spec PyProof.Rows L2 PL.G
namespace PL.W60
theorem sc_is_whole : FnScope ["thing", "low", "high"] ["thing", "low", "high"] (defScope s_is_whole) := ⟨rfl, rfl, rfl, by decide +kernel, rfl, by decide +kernel, by decide +kernel⟩
theorem ok_is_whole {P : Program} {w : World} {K : PySem.W.Frag} {mg : Str → Option Value} {base : Heap} {f : Addr} {fd : FuncData} (F : FunD K (Str.ofString "is_whole") (Str.ofString "is_whole") (defArgs s_is_whole) (defBody s_is_whole) (defScope s_is_whole) [] [] f fd) (hm : mg (Str.ofString "is_whole") = some (.ref f)) (zb : Bts mg) : Fn P w K mg base 1 (Str.ofString "is_whole") 3 F_is_whole :=
  fn_def (N := ["thing", "low", "high"]) (ps := ["thing", "low", "high"]) (k := 0) (fb := B_is_whole) F hm sc_is_whole (fun _ _ _ _ _ _ us hl => match us, hl with | [_, _, _], _ => rfl) (fun cdv A outer s H E C =>
    (sss_one (ss_ret (ev_and (ev_isi "int" (by decide) (by rfl) zb.isinstance (by rfl) zb.int (by decide +kernel) (ev_var 0)) (ev_and (ev_not (ev_isi "bool" (by decide) (by rfl) zb.isinstance (by rfl) zb.bool (by decide +kernel) (ev_var 0))) (ev_one (ev_chain op_leD ops_leD op_leD ops_leD (ev_var 1) (ev_var 0) (ev_var 2))))))))
theorem sc_greatest_in : FnScope ["one", "other"] ["one", "other"] (defScope s_greatest_in) := ⟨rfl, rfl, rfl, by decide +kernel, rfl, by decide +kernel, by decide +kernel⟩
theorem ok_greatest_in {P : Program} {w : World} {K : PySem.W.Frag} {mg : Str → Option Value} {base : Heap} {f : Addr} {fd : FuncData} (F : FunD K (Str.ofString "greatest_in") (Str.ofString "greatest_in") (defArgs s_greatest_in) (defBody s_greatest_in) (defScope s_greatest_in) [] [] f fd) (hm : mg (Str.ofString "greatest_in") = some (.ref f)) (zb : Bts mg) : Fn P w K mg base 1 (Str.ofString "greatest_in") 2 F_greatest_in :=
  fn_def (N := ["one", "other"]) (ps := ["one", "other"]) (k := 0) (fb := B_greatest_in) F hm sc_greatest_in (fun _ _ _ _ _ _ us hl => match us, hl with | [_, _], _ => rfl) (fun cdv A outer s H E C =>
    (sss_cons (ss_while m_greatest_in C.po (et_cmp (op_neD C.hr.units) ops_neD (ev_var 1) ev_int (nomark _)) (sss_one (ss_par 0 1 C.hc C.nd (ea_cons (ev_var 1) (ea_cons (ev_op op_modN ops_modI (ev_var 0) (ev_var 1)) ea_nil)))))
    (sss_one (ss_ret (ev_callB call_abs cs_absD (by rfl) zb.abs (by decide +kernel) (eb_cons (ev_var 0) eb_nil))))))
theorem sc_is_name : FnScope ["thing", "sign"] ["thing"] (defScope s_is_name) := ⟨rfl, rfl, rfl, by decide +kernel, rfl, by decide +kernel, by decide +kernel⟩
theorem ok_is_name {P : Program} {w : World} {K : PySem.W.Frag} {mg : Str → Option Value} {base : Heap} {f : Addr} {fd : FuncData} (F : FunD K (Str.ofString "is_name") (Str.ofString "is_name") (defArgs s_is_name) (defBody s_is_name) (defScope s_is_name) [] [] f fd) (hm : mg (Str.ofString "is_name") = some (.ref f)) (zb : Bts mg) (c_LONGEST : Kon K mg (Str.ofString "LONGEST") d_LONGEST) (c_SMALL : Kon K mg (Str.ofString "SMALL") d_SMALL) : Fn P w K mg base 1 (Str.ofString "is_name") 1 F_is_name :=
  fn_def (N := ["thing", "sign"]) (ps := ["thing"]) (k := 0) (fb := B_is_name) F hm sc_is_name (fun _ _ _ _ _ _ us hl => match us, hl with | [_], _ => rfl) (fun cdv A outer s H E C =>
    (sss_one (ss_ret (ev_and (ev_isi "str" (by decide) (by rfl) zb.isinstance (by rfl) zb.str (by decide +kernel) (ev_var 0)) (ev_and (ev_chain op_leD ops_leD op_leD ops_leD ev_int (ev_callB call_lenD cs_lenD (by rfl) zb.len (by decide +kernel) (eb_cons (ev_var 0) eb_nil)) (ev_glob c_LONGEST (by rfl))) (ev_one (ev_callB (cr_all C.hc) cs_all (by rfl) zb.all (by decide +kernel) (eb_cons (EN.ev (en_lc [("sign", 1)] C.hc C.nd (ei_seq (ev_var 0)) (blkOk_by (by kernel_rfl)) (fun _ _ _ _ _ => (eg_name 1 C.nd)) (fun _ _ _ _ _ => ets_nil) (fun _ _ _ _ _ => (ev_cmp op_inG ops_inG (ev_var 1) (ev_glob c_SMALL (by rfl)) (by rfl))))) eb_nil))))))))
theorem sc_fraction_text : FnScope ["one"] ["one"] (defScope s_fraction_text) := ⟨rfl, rfl, rfl, by decide +kernel, rfl, by decide +kernel, by decide +kernel⟩
theorem ok_fraction_text {P : Program} {w : World} {K : PySem.W.Frag} {mg : Str → Option Value} {base : Heap} {f : Addr} {fd : FuncData} (F : FunD K (Str.ofString "fraction_text") (Str.ofString "fraction_text") (defArgs s_fraction_text) (defBody s_fraction_text) (defScope s_fraction_text) [] [] f fd) (hm : mg (Str.ofString "fraction_text") = some (.ref f)) (zb : Bts mg) : Fn P w K mg base 1 (Str.ofString "fraction_text") 1 F_fraction_text :=
  fn_def (N := ["one"]) (ps := ["one"]) (k := 0) (fb := B_fraction_text) F hm sc_fraction_text (fun _ _ _ _ _ _ us hl => match us, hl with | [_], _ => rfl) (fun cdv A outer s H E C =>
    (sss_one (ss_ret (ev_if (et_cmp (op_eqD C.hr.units) ops_eqD (ev_ix (ev_var 0) ev_int) ev_int (nomark _)) (ev_callTy call_str_int cs_strD (by rfl) zb.str (by decide +kernel) (eb_cons (ev_ix (ev_var 0) ev_int) eb_nil)) (ev_op op_addD ops_addD (ev_op op_addD ops_addD (ev_callTy call_str_int cs_strD (by rfl) zb.str (by decide +kernel) (eb_cons (ev_ix (ev_var 0) ev_int) eb_nil)) ev_str) (ev_callTy call_str_int cs_strD (by rfl) zb.str (by decide +kernel) (eb_cons (ev_ix (ev_var 0) ev_int) eb_nil)))))))
theorem sc_number_in : FnScope ["word", "sign"] ["word"] (defScope s_number_in) := ⟨rfl, rfl, rfl, by decide +kernel, rfl, by decide +kernel, by decide +kernel⟩
theorem ok_number_in {P : Program} {w : World} {K : PySem.W.Frag} {mg : Str → Option Value} {base : Heap} {f : Addr} {fd : FuncData} (F : FunD K (Str.ofString "number_in") (Str.ofString "number_in") (defArgs s_number_in) (defBody s_number_in) (defScope s_number_in) [] [] f fd) (hm : mg (Str.ofString "number_in") = some (.ref f)) (zb : Bts mg) (c_FIGURES : Kon K mg (Str.ofString "FIGURES") d_FIGURES) (e_NoText : ErrC K mg (Str.ofString "NoText")) : Fn P w K mg base 1 (Str.ofString "number_in") 1 F_number_in :=
  fn_def (N := ["word", "sign"]) (ps := ["word"]) (k := 0) (fb := B_number_in) F hm sc_number_in (fun _ _ _ _ _ _ us hl => match us, hl with | [_], _ => rfl) (fun cdv A outer s H E C =>
    (sss_cons (ss_if (EW.et (ew_or (et_cmp (op_eqD C.hr.units) ops_eqD (ev_var 0) ev_str (nomark _)) (ew_or1 (et_not (et_val (ev_callB (cr_all C.hc) cs_all (by rfl) zb.all (by decide +kernel) (eb_cons (EN.ev (en_lc [("sign", 1)] C.hc C.nd (ei_seq (ev_var 0)) (blkOk_by (by kernel_rfl)) (fun _ _ _ _ _ => (eg_name 1 C.nd)) (fun _ _ _ _ _ => ets_nil) (fun _ _ _ _ _ => (ev_cmp op_inG ops_inG (ev_var 1) (ev_glob c_FIGURES (by rfl)) (by rfl))))) eb_nil))))))) (sss_one (ss_raise e_NoText C.hc C.tk (by rfl))) sss_nil)
    (sss_one (ss_ret (ev_callTy call_int_str cs_intTD (by rfl) (zb.int) (by decide +kernel) (eb_cons (ev_var 0) eb_nil))))))
theorem sc_u_law_cell : FnScope ["script", "k"] ["script", "k"] (defScope s_u_law_cell) := ⟨rfl, rfl, rfl, by decide +kernel, rfl, by decide +kernel, by decide +kernel⟩
theorem ok_u_law_cell {P : Program} {w : World} {K : PySem.W.Frag} {mg : Str → Option Value} {base : Heap} {f : Addr} {fd : FuncData} (F : FunD K (Str.ofString "_law_cell") (Str.ofString "_law_cell") (defArgs s_u_law_cell) (defBody s_u_law_cell) (defScope s_u_law_cell) [] [] f fd) (hm : mg (Str.ofString "_law_cell") = some (.ref f)) (zb : Bts mg) : Fn P w K mg base 1 (Str.ofString "_law_cell") 2 F_u_law_cell :=
  fn_def (N := ["script", "k"]) (ps := ["script", "k"]) (k := 0) (fb := B_u_law_cell) F hm sc_u_law_cell (fun _ _ _ _ _ _ us hl => match us, hl with | [_, _], _ => rfl) (fun cdv A outer s H E C =>
    (sss_cons (ss_if (et_cmp op_ltD ops_ltD (ev_var 1) (ev_callB call_lenD cs_lenD (by rfl) zb.len (by decide +kernel) (eb_cons (ev_var 0) eb_nil)) (nomark _)) (sss_one (ss_ret (ev_ix (ev_var 0) (ev_var 1)))) sss_nil)
    (sss_cons (ss_if (et_cmp (op_eqD C.hr.units) ops_eqD (ev_var 0) (EN.ev (en_lst ea_nil)) (nomark _)) (sss_one (ss_ret ev_int)) sss_nil)
    (sss_one (ss_ret (ev_op op_addD ops_addD (ev_op op_mulD ops_mulD (ev_ix (ev_var 0) (ev_op op_modN ops_modI (ev_var 1) (ev_callB call_lenD cs_lenD (by rfl) zb.len (by decide +kernel) (eb_cons (ev_var 0) eb_nil)))) ev_int) (ev_var 1)))))))
theorem sc_u_law_spoilt : FnScope ["text", "cell", "signs", "at", "sign", "on", "way"] ["text", "cell", "signs"] (defScope s_u_law_spoilt) := ⟨rfl, rfl, rfl, by decide +kernel, rfl, by decide +kernel, by decide +kernel⟩
theorem ok_u_law_spoilt {P : Program} {w : World} {K : PySem.W.Frag} {mg : Str → Option Value} {base : Heap} {f : Addr} {fd : FuncData} (F : FunD K (Str.ofString "_law_spoilt") (Str.ofString "_law_spoilt") (defArgs s_u_law_spoilt) (defBody s_u_law_spoilt) (defScope s_u_law_spoilt) [] [] f fd) (hm : mg (Str.ofString "_law_spoilt") = some (.ref f)) (zb : Bts mg) : Fn P w K mg base 1 (Str.ofString "_law_spoilt") 3 F_u_law_spoilt :=
  fn_def (N := ["text", "cell", "signs", "at", "sign", "on", "way"]) (ps := ["text", "cell", "signs"]) (k := 0) (fb := B_u_law_spoilt) F hm sc_u_law_spoilt (fun _ _ _ _ _ _ us hl => match us, hl with | [_, _, _], _ => rfl) (fun cdv A outer s H E C =>
    (sss_cons (ss_set 3 C.nd (ev_op op_modN ops_modI (ev_var 1) (ev_op op_addD ops_addD (ev_callB call_lenD cs_lenD (by rfl) zb.len (by decide +kernel) (eb_cons (ev_var 0) eb_nil)) ev_int)))
    (sss_cons (ss_set 4 C.nd (ev_ix (ev_var 2) (ev_op op_modN ops_modI (ev_op op_fdivW ops_fdivI (ev_var 1) ev_int) (ev_callB call_lenD cs_lenD (by rfl) zb.len (by decide +kernel) (eb_cons (ev_var 2) eb_nil)))))
    (sss_cons (ss_set 5 C.nd (ev_op op_addD ops_addD (ev_op op_addD ops_addD (ev_var 3) ev_int) (ev_op op_modN ops_modI (ev_op op_fdivW ops_fdivI (ev_var 1) ev_int) ev_int)))
    (sss_cons (ss_set 6 C.nd (ev_op op_modN ops_modI (ev_op op_fdivW ops_fdivI (ev_var 1) ev_int) ev_int))
    (sss_cons (ss_if (et_cmp op_ltD ops_ltD (ev_var 6) ev_int (nomark _)) (sss_one (ss_ret (ev_op op_addD ops_addD (ev_op op_addD ops_addD (ev_slice (ev_var 0) eo_none (eo_some (ev_var 3))) (ev_var 4)) (ev_slice (ev_var 0) (eo_some (ev_var 3)) eo_none)))) sss_nil)
    (sss_cons (ss_if (et_cmp (op_eqD C.hr.units) ops_eqD (ev_var 6) ev_int (nomark _)) (sss_one (ss_ret (ev_op op_addD ops_addD (ev_slice (ev_var 0) eo_none (eo_some (ev_var 3))) (ev_slice (ev_var 0) (eo_some (ev_op op_addD ops_addD (ev_var 3) ev_int)) eo_none)))) sss_nil)
    (sss_cons (ss_if (et_cmp op_ltD ops_ltD (ev_var 6) ev_int (nomark _)) (sss_one (ss_ret (ev_op op_addD ops_addD (ev_op op_addD ops_addD (ev_slice (ev_var 0) eo_none (eo_some (ev_var 3))) (ev_var 4)) (ev_slice (ev_var 0) (eo_some (ev_op op_addD ops_addD (ev_var 3) ev_int)) eo_none)))) sss_nil)
    (sss_cons (ss_if (et_cmp (op_eqD C.hr.units) ops_eqD (ev_var 6) ev_int (nomark _)) (sss_one (ss_ret (ev_op op_addD ops_addD (ev_slice (ev_var 0) eo_none (eo_some (ev_var 3))) (ev_slice (ev_var 0) (eo_some (ev_var 5)) eo_none)))) sss_nil)
    (sss_cons (ss_if (et_cmp (op_eqD C.hr.units) ops_eqD (ev_var 6) ev_int (nomark _)) (sss_one (ss_ret (ev_op op_addD ops_addD (ev_slice (ev_var 0) eo_none (eo_some (ev_var 5))) (ev_slice (ev_var 0) (eo_some (ev_var 3)) eo_none)))) sss_nil)
    (sss_one (ss_ret (ev_ix (EN.ev (en_lst (ea_cons (ev_op op_addD ops_addD (ev_var 0) ev_str) (ea_cons (ev_op op_addD ops_addD ev_str (ev_var 0)) (ea_cons (ev_op op_addD ops_addD (ev_slice (ev_var 0) (eo_some (ev_var 3)) eo_none) (ev_slice (ev_var 0) eo_none (eo_some (ev_var 3)))) (ea_cons ev_str (ea_cons (ev_op op_addD ops_addD (ev_var 0) (ev_var 0)) ea_nil))))))) (ev_op op_modN ops_modI (ev_var 1) ev_int))))))))))))))
theorem sc_u_law_word : FnScope ["kept", "kinds", "words"] ["kept"] (defScope s_u_law_word) := ⟨rfl, rfl, rfl, by decide +kernel, rfl, by decide +kernel, by decide +kernel⟩
theorem ok_u_law_word {P : Program} {w : World} {K : PySem.W.Frag} {mg : Str → Option Value} {base : Heap} {f : Addr} {fd : FuncData} (F : FunD K (Str.ofString "_law_word") (Str.ofString "_law_word") (defArgs s_u_law_word) (defBody s_u_law_word) (defScope s_u_law_word) [] [] f fd) (hm : mg (Str.ofString "_law_word") = some (.ref f)) (zb : Bts mg) (zx : ErrX K mg ecs exs) : Fn P w K mg base 1 (Str.ofString "_law_word") 1 F_u_law_word :=
  fn_def (N := ["kept", "kinds", "words"]) (ps := ["kept"]) (k := 0) (fb := B_u_law_word) F hm sc_u_law_word (fun _ _ _ _ _ _ us hl => match us, hl with | [_], _ => rfl) (fun cdv A outer s H E C =>
    (sss_cons (ss_setN 1 C.nd (en_lst (ea_cons (ev_isE ecs (by rfl) zb.isinstance (by rfl) (zx.gx _ (by decide +kernel)) (zx.is_ _ (by decide +kernel)) (ev_var 0)) (ea_cons (ev_isE ecs (by rfl) zb.isinstance (by rfl) (zx.gx _ (by decide +kernel)) (zx.is_ _ (by decide +kernel)) (ev_var 0)) (ea_cons (ev_isE ecs (by rfl) zb.isinstance (by rfl) (zx.gx _ (by decide +kernel)) (zx.is_ _ (by decide +kernel)) (ev_var 0)) ea_nil)))))
    (sss_cons (ss_ext 1 (EN.ev (en_lst (ea_cons (ev_isE ecs (by rfl) zb.isinstance (by rfl) (zx.gx _ (by decide +kernel)) (zx.is_ _ (by decide +kernel)) (ev_var 0)) ea_nil))))
    (sss_cons (ss_ext 1 (EN.ev (en_lst (ea_cons (ev_isE ecs (by rfl) zb.isinstance (by rfl) (zx.gx _ (by decide +kernel)) (zx.is_ _ (by decide +kernel)) (ev_var 0)) (ea_cons (ev_isE ecs (by rfl) zb.isinstance (by rfl) (zx.gx _ (by decide +kernel)) (zx.is_ _ (by decide +kernel)) (ev_var 0)) (ea_cons (ev_isE ecs (by rfl) zb.isinstance (by rfl) (zx.gx _ (by decide +kernel)) (zx.is_ _ (by decide +kernel)) (ev_var 0)) ea_nil))))))
    (sss_cons (ss_ext 1 (EN.ev (en_lst (ea_cons (ev_isE ecs (by rfl) zb.isinstance (by rfl) (zx.gx _ (by decide +kernel)) (zx.is_ _ (by decide +kernel)) (ev_var 0)) (ea_cons (ev_isE ecs (by rfl) zb.isinstance (by rfl) (zx.gx _ (by decide +kernel)) (zx.is_ _ (by decide +kernel)) (ev_var 0)) (ea_cons (ev_isE ecs (by rfl) zb.isinstance (by rfl) (zx.gx _ (by decide +kernel)) (zx.is_ _ (by decide +kernel)) (ev_var 0)) ea_nil))))))
    (sss_cons (ss_if (EW.et (ew_or (et_cmp (op_neD C.hr.units) ops_neD (ev_cnt (ev_var 1)) ev_int (nomark _)) (ew_or (et_not (et_val (ev_isEB ecs (by rfl) zb.isinstance (by rfl) zx.ve (by decide +kernel) zx.iv (ev_var 0)))) (ew_or1 (et_not (et_val (ev_isE ecs (by rfl) zb.isinstance (by rfl) (zx.gx _ (by decide +kernel)) (zx.is_ _ (by decide +kernel)) (ev_var 0)))))))) (sss_one (ss_ret ev_str)) sss_nil)
    (sss_cons (ss_setN 2 C.nd (en_lst (ea_cons ev_str (ea_cons ev_str (ea_cons ev_str (ea_cons ev_str (ea_cons ev_str (ea_cons ev_str (ea_cons ev_str ea_nil)))))))))
    (sss_cons (ss_ext 2 (EN.ev (en_lst (ea_cons ev_str (ea_cons ev_str (ea_cons ev_str ea_nil))))))
    (sss_one (ss_ret (ev_ix (ev_var 2) (ev_idx (ev_var 1)))))))))))))
theorem sc_u_law_low : FnScope ["up", "down", "one", "other"] ["up", "down"] (defScope s_u_law_low) := ⟨rfl, rfl, rfl, by decide +kernel, rfl, by decide +kernel, by decide +kernel⟩
theorem ok_u_law_low {P : Program} {w : World} {K : PySem.W.Frag} {mg : Str → Option Value} {base : Heap} {f : Addr} {fd : FuncData} (F : FunD K (Str.ofString "_law_low") (Str.ofString "_law_low") (defArgs s_u_law_low) (defBody s_u_law_low) (defScope s_u_law_low) [] [] f fd) (hm : mg (Str.ofString "_law_low") = some (.ref f)) (zb : Bts mg) : Fn P w K mg base 1 (Str.ofString "_law_low") 2 F_u_law_low :=
  fn_def (N := ["up", "down", "one", "other"]) (ps := ["up", "down"]) (k := 0) (fb := B_u_law_low) F hm sc_u_law_low (fun _ _ _ _ _ _ us hl => match us, hl with | [_, _], _ => rfl) (fun cdv A outer s H E C =>
    (sss_cons (ss_par 2 3 C.hc C.nd (ea_cons (ev_callB call_abs cs_absD (by rfl) zb.abs (by decide +kernel) (eb_cons (ev_var 0) eb_nil)) (ea_cons (ev_callB call_abs cs_absD (by rfl) zb.abs (by decide +kernel) (eb_cons (ev_var 1) eb_nil)) ea_nil)))
    (sss_cons (ss_while m_u_law_low C.po (et_cmp (op_neD C.hr.units) ops_neD (ev_var 3) ev_int (nomark _)) (sss_one (ss_par 2 3 C.hc C.nd (ea_cons (ev_var 3) (ea_cons (ev_op op_modN ops_modI (ev_var 2) (ev_var 3)) ea_nil)))))
    (sss_one (ss_ret (ev_if (et_cmp op_gt ops_gtI (ev_var 1) ev_int (nomark _)) (ev_tup (ea_cons (ev_op op_fdivW ops_fdivI (ev_var 0) (ev_var 2)) (ea_cons (ev_op op_fdivW ops_fdivI (ev_var 1) (ev_var 2)) ea_nil))) (ev_tup (ea_cons (ev_op op_sub ops_subI ev_int (ev_op op_fdivW ops_fdivI (ev_var 0) (ev_var 2))) (ea_cons (ev_op op_sub ops_subI ev_int (ev_op op_fdivW ops_fdivI (ev_var 1) (ev_var 2))) ea_nil)))))))))
theorem sc_u_law_names : FnScope ["book", "name", "stand"] ["book"] (defScope s_u_law_names) := ⟨rfl, rfl, rfl, by decide +kernel, rfl, by decide +kernel, by decide +kernel⟩
theorem ok_u_law_names {P : Program} {w : World} {K : PySem.W.Frag} {mg : Str → Option Value} {base : Heap} {f : Addr} {fd : FuncData} (F : FunD K (Str.ofString "_law_names") (Str.ofString "_law_names") (defArgs s_u_law_names) (defBody s_u_law_names) (defScope s_u_law_names) [] [] f fd) (hm : mg (Str.ofString "_law_names") = some (.ref f)) (zb : Bts mg) : Fn P w K mg base 1 (Str.ofString "_law_names") 1 F_u_law_names :=
  fn_def (N := ["book", "name", "stand"]) (ps := ["book"]) (k := 0) (fb := B_u_law_names) F hm sc_u_law_names (fun _ _ _ _ _ _ us hl => match us, hl with | [_], _ => rfl) (fun cdv A outer s H E C =>
    (sss_one (ss_ret (EN.ev (en_lc [("name", 1), ("stand", 2)] C.hc C.nd (ei_seq (ev_var 0)) (blkOk_by (by kernel_rfl)) (fun _ _ _ _ _ => (eg_tup C.hc (egs_cons (eg_name 1 C.nd) (egs_cons (eg_name 2 C.nd) egs_nil)))) (fun _ _ _ _ _ => ets_nil) (fun _ _ _ _ _ => (ev_var 1)))))))
theorem sc_u_law_written : FnScope ["shares", "made", "name", "part"] ["shares"] (defScope s_u_law_written) := ⟨rfl, rfl, rfl, by decide +kernel, rfl, by decide +kernel, by decide +kernel⟩
theorem ok_u_law_written {P : Program} {w : World} {K : PySem.W.Frag} {mg : Str → Option Value} {base : Heap} {f : Addr} {fd : FuncData} (F : FunD K (Str.ofString "_law_written") (Str.ofString "_law_written") (defArgs s_u_law_written) (defBody s_u_law_written) (defScope s_u_law_written) [] [] f fd) (hm : mg (Str.ofString "_law_written") = some (.ref f)) (zb : Bts mg) : Fn P w K mg base 1 (Str.ofString "_law_written") 1 F_u_law_written :=
  fn_def (N := ["shares", "made", "name", "part"]) (ps := ["shares"]) (k := 0) (fb := B_u_law_written) F hm sc_u_law_written (fun _ _ _ _ _ _ us hl => match us, hl with | [_], _ => rfl) (fun cdv A outer s H E C =>
    (sss_cons (ss_set 1 C.nd ev_str)
    (sss_cons (ss_for C.po C.hc (ei_seq (ev_var 0)) (eg_tup C.hc (egs_cons (eg_name 2 C.nd) (egs_cons (eg_name 3 C.nd) egs_nil))) (sss_cons (ss_set 1 C.nd (ev_op op_addD ops_addD (ev_op op_addD ops_addD (ev_op op_addD ops_addD (ev_op op_addD ops_addD (ev_var 1) (ev_if (et_cmp (op_neD C.hr.units) ops_neD (ev_var 1) ev_str (nomark _)) ev_str ev_str)) (ev_var 2)) ev_str) (ev_callTy call_str_int cs_strD (by rfl) zb.str (by decide +kernel) (eb_cons (ev_ix (ev_var 3) ev_int) eb_nil))))
    (sss_one (ss_set 1 C.nd (ev_op op_addD ops_addD (ev_var 1) (ev_if (et_cmp op_gt ops_gtI (ev_ix (ev_var 3) ev_int) ev_int (nomark _)) (ev_op op_addD ops_addD ev_str (ev_callTy call_str_int cs_strD (by rfl) zb.str (by decide +kernel) (eb_cons (ev_ix (ev_var 3) ev_int) eb_nil))) ev_str))))))
    (sss_one (ss_ret (ev_var 1))))))
theorem sc_share : FnScope ["up", "down", "most"] ["up", "down"] (defScope s_share) := ⟨rfl, rfl, rfl, by decide +kernel, rfl, by decide +kernel, by decide +kernel⟩
theorem ok_share {P : Program} {w : World} {K : PySem.W.Frag} {mg : Str → Option Value} {base : Heap} {f : Addr} {fd : FuncData} (F : FunD K (Str.ofString "share") (Str.ofString "share") (defArgs s_share) (defBody s_share) (defScope s_share) [] [] f fd) (hm : mg (Str.ofString "share") = some (.ref f)) (zb : Bts mg) (f_greatest_in : Fn P w K mg base 1 (Str.ofString "greatest_in") 2 F_greatest_in) : Fn P w K mg base 2 (Str.ofString "share") 2 F_share :=
  fn_def (N := ["up", "down", "most"]) (ps := ["up", "down"]) (k := 1) (fb := B_share) F hm sc_share (fun _ _ _ _ _ _ us hl => match us, hl with | [_, _], _ => rfl) (fun cdv A outer s H E C =>
    (sss_cons (ss_set 2 C.nd (ev_call f_greatest_in C.hr C.hx (by rfl) (ea_cons (ev_var 0) (ea_cons (ev_var 1) ea_nil))))
    (sss_one (ss_ret (ev_if (et_cmp op_gt ops_gtI (ev_var 1) ev_int (nomark _)) (ev_tup (ea_cons (ev_op op_fdivW ops_fdivI (ev_var 0) (ev_var 2)) (ea_cons (ev_op op_fdivW ops_fdivI (ev_var 1) (ev_var 2)) ea_nil))) (ev_tup (ea_cons (ev_op op_sub ops_subI ev_int (ev_op op_fdivW ops_fdivI (ev_var 0) (ev_var 2))) (ea_cons (ev_op op_sub ops_subI ev_int (ev_op op_fdivW ops_fdivI (ev_var 1) (ev_var 2))) ea_nil))))))))
theorem sc_is_fraction : FnScope ["thing", "one"] ["thing"] (defScope s_is_fraction) := ⟨rfl, rfl, rfl, by decide +kernel, rfl, by decide +kernel, by decide +kernel⟩
theorem ok_is_fraction {P : Program} {w : World} {K : PySem.W.Frag} {mg : Str → Option Value} {base : Heap} {f : Addr} {fd : FuncData} (F : FunD K (Str.ofString "is_fraction") (Str.ofString "is_fraction") (defArgs s_is_fraction) (defBody s_is_fraction) (defScope s_is_fraction) [] [] f fd) (hm : mg (Str.ofString "is_fraction") = some (.ref f)) (zb : Bts mg) (f_greatest_in : Fn P w K mg base 1 (Str.ofString "greatest_in") 2 F_greatest_in) : Fn P w K mg base 2 (Str.ofString "is_fraction") 1 F_is_fraction :=
  fn_def (N := ["thing", "one"]) (ps := ["thing"]) (k := 1) (fb := B_is_fraction) F hm sc_is_fraction (fun _ _ _ _ _ _ us hl => match us, hl with | [_], _ => rfl) (fun cdv A outer s H E C =>
    (sss_cons (ss_if (EW.et (ew_or (et_not (et_val (ev_isi "tuple" (by decide) (by rfl) zb.isinstance (by rfl) zb.tuple (by decide +kernel) (ev_var 0)))) (ew_or1 (et_cmp (op_neD C.hr.units) ops_neD (ev_callB call_lenD cs_lenD (by rfl) zb.len (by decide +kernel) (eb_cons (ev_var 0) eb_nil)) ev_int (nomark _))))) (sss_one (ss_ret ev_bl)) sss_nil)
    (sss_cons (ss_if (et_not (et_val (ev_callB (cr_all C.hc) cs_all (by rfl) zb.all (by decide +kernel) (eb_cons (EN.ev (en_lc [("one", 1)] C.hc C.nd (ei_seq (ev_var 0)) (blkOk_by (by kernel_rfl)) (fun _ _ _ _ _ => (eg_name 1 C.nd)) (fun _ _ _ _ _ => ets_nil) (fun _ _ _ _ _ => (ev_and (ev_isi "int" (by decide) (by rfl) zb.isinstance (by rfl) zb.int (by decide +kernel) (ev_var 1)) (ev_one (ev_not (ev_isi "bool" (by decide) (by rfl) zb.isinstance (by rfl) zb.bool (by decide +kernel) (ev_var 1)))))))) eb_nil)))) (sss_one (ss_ret ev_bl)) sss_nil)
    (sss_one (ss_ret (ev_and (ev_cmp op_gt ops_gtI (ev_ix (ev_var 0) ev_int) ev_int (nomark _)) (ev_one (ev_cmp (op_eqD C.hr.units) ops_eqD (ev_call f_greatest_in C.hr C.hx (by rfl) (ea_cons (ev_ix (ev_var 0) ev_int) (ea_cons (ev_ix (ev_var 0) ev_int) ea_nil))) ev_int (nomark _)))))))))
theorem sc_is_stand : FnScope ["thing", "one"] ["thing"] (defScope s_is_stand) := ⟨rfl, rfl, rfl, by decide +kernel, rfl, by decide +kernel, by decide +kernel⟩
theorem ok_is_stand {P : Program} {w : World} {K : PySem.W.Frag} {mg : Str → Option Value} {base : Heap} {f : Addr} {fd : FuncData} (F : FunD K (Str.ofString "is_stand") (Str.ofString "is_stand") (defArgs s_is_stand) (defBody s_is_stand) (defScope s_is_stand) [] [] f fd) (hm : mg (Str.ofString "is_stand") = some (.ref f)) (zb : Bts mg) (c_FARTHEST : Kon K mg (Str.ofString "FARTHEST") d_FARTHEST) (f_is_whole : Fn P w K mg base 1 (Str.ofString "is_whole") 3 F_is_whole) : Fn P w K mg base 2 (Str.ofString "is_stand") 1 F_is_stand :=
  fn_def (N := ["thing", "one"]) (ps := ["thing"]) (k := 1) (fb := B_is_stand) F hm sc_is_stand (fun _ _ _ _ _ _ us hl => match us, hl with | [_], _ => rfl) (fun cdv A outer s H E C =>
    (sss_cons (ss_if (EW.et (ew_or (et_not (et_val (ev_isi "tuple" (by decide) (by rfl) zb.isinstance (by rfl) zb.tuple (by decide +kernel) (ev_var 0)))) (ew_or1 (et_not (et_chain op_leD ops_leD op_leD ops_leD ev_int (ev_callB call_lenD cs_lenD (by rfl) zb.len (by decide +kernel) (eb_cons (ev_var 0) eb_nil)) ev_int))))) (sss_one (ss_ret ev_bl)) sss_nil)
    (sss_one (ss_ret (ev_callB (cr_all C.hc) cs_all (by rfl) zb.all (by decide +kernel) (eb_cons (EN.ev (en_lc [("one", 1)] C.hc C.nd (ei_seq (ev_var 0)) (blkOk_by (by kernel_rfl)) (fun _ _ _ _ _ => (eg_name 1 C.nd)) (fun _ _ _ _ _ => ets_nil) (fun _ _ _ _ _ => (ev_call f_is_whole C.hr passZ (by rfl) (ea_cons (ev_var 1) (ea_cons (ev_op op_sub ops_subI ev_int (ev_glob c_FARTHEST (by rfl))) (ea_cons (ev_glob c_FARTHEST (by rfl)) ea_nil))))))) eb_nil))))))
theorem sc_has_name : FnScope ["book", "name", "one"] ["book", "name"] (defScope s_has_name) := ⟨rfl, rfl, rfl, by decide +kernel, rfl, by decide +kernel, by decide +kernel⟩
theorem ok_has_name {P : Program} {w : World} {K : PySem.W.Frag} {mg : Str → Option Value} {base : Heap} {f : Addr} {fd : FuncData} (F : FunD K (Str.ofString "has_name") (Str.ofString "has_name") (defArgs s_has_name) (defBody s_has_name) (defScope s_has_name) [] [] f fd) (hm : mg (Str.ofString "has_name") = some (.ref f)) (zb : Bts mg) (f_is_name : Fn P w K mg base 1 (Str.ofString "is_name") 1 F_is_name) : Fn P w K mg base 2 (Str.ofString "has_name") 2 F_has_name :=
  fn_def (N := ["book", "name", "one"]) (ps := ["book", "name"]) (k := 1) (fb := B_has_name) F hm sc_has_name (fun _ _ _ _ _ _ us hl => match us, hl with | [_, _], _ => rfl) (fun cdv A outer s H E C =>
    (sss_one (ss_ret (ev_and (ev_call f_is_name C.hr C.hx (by rfl) (ea_cons (ev_var 1) ea_nil)) (ev_one (ev_cmp op_inG ops_inG (ev_var 1) (EN.ev (en_lc [("one", 2)] C.hc C.nd (ei_seq (ev_var 0)) (blkOk_by (by kernel_rfl)) (fun _ _ _ _ _ => (eg_name 2 C.nd)) (fun _ _ _ _ _ => ets_nil) (fun _ _ _ _ _ => (ev_ix (ev_var 2) ev_int)))) (by rfl)))))))
theorem sc_text_of : FnScope ["shares", "name", "part"] ["shares"] (defScope s_text_of) := ⟨rfl, rfl, rfl, by decide +kernel, rfl, by decide +kernel, by decide +kernel⟩
theorem ok_text_of {P : Program} {w : World} {K : PySem.W.Frag} {mg : Str → Option Value} {base : Heap} {f : Addr} {fd : FuncData} (F : FunD K (Str.ofString "text_of") (Str.ofString "text_of") (defArgs s_text_of) (defBody s_text_of) (defScope s_text_of) [] [] f fd) (hm : mg (Str.ofString "text_of") = some (.ref f)) (zb : Bts mg) (f_fraction_text : Fn P w K mg base 1 (Str.ofString "fraction_text") 1 F_fraction_text) : Fn P w K mg base 2 (Str.ofString "text_of") 1 F_text_of :=
  fn_def (N := ["shares", "name", "part"]) (ps := ["shares"]) (k := 1) (fb := B_text_of) F hm sc_text_of (fun _ _ _ _ _ _ us hl => match us, hl with | [_], _ => rfl) (fun cdv A outer s H E C =>
    (sss_one (ss_ret (ev_join ev_str (EN.ev (en_lc [("name", 1), ("part", 2)] C.hc C.nd (ei_seq (ev_var 0)) (blkOk_by (by kernel_rfl)) (fun _ _ _ _ _ => (eg_tup C.hc (egs_cons (eg_name 1 C.nd) (egs_cons (eg_name 2 C.nd) egs_nil)))) (fun _ _ _ _ _ => ets_nil) (fun _ _ _ _ _ => (ev_op op_addD ops_addD (ev_op op_addD ops_addD (ev_var 1) ev_str) (ev_call f_fraction_text C.hr passZ (by rfl) (ea_cons (ev_var 2) ea_nil))))))))))
theorem sc_share_in : FnScope ["piece", "words", "numbers", "word"] ["piece"] (defScope s_share_in) := ⟨rfl, rfl, rfl, by decide +kernel, rfl, by decide +kernel, by decide +kernel⟩
theorem ok_share_in {P : Program} {w : World} {K : PySem.W.Frag} {mg : Str → Option Value} {base : Heap} {f : Addr} {fd : FuncData} (F : FunD K (Str.ofString "share_in") (Str.ofString "share_in") (defArgs s_share_in) (defBody s_share_in) (defScope s_share_in) [] [] f fd) (hm : mg (Str.ofString "share_in") = some (.ref f)) (zb : Bts mg) (e_NoText : ErrC K mg (Str.ofString "NoText")) (f_number_in : Fn P w K mg base 1 (Str.ofString "number_in") 1 F_number_in) : Fn P w K mg base 2 (Str.ofString "share_in") 1 F_share_in :=
  fn_def (N := ["piece", "words", "numbers", "word"]) (ps := ["piece"]) (k := 1) (fb := B_share_in) F hm sc_share_in (fun _ _ _ _ _ _ us hl => match us, hl with | [_], _ => rfl) (fun cdv A outer s H E C =>
    (sss_cons (ss_set 1 C.nd (EN.ev (en_split (ev_var 0) ev_str)))
    (sss_cons (ss_if (et_cmp (op_neD C.hr.units) ops_neD (ev_callB call_lenD cs_lenD (by rfl) zb.len (by decide +kernel) (eb_cons (ev_var 1) eb_nil)) ev_int (nomark _)) (sss_one (ss_raise e_NoText C.hc C.tk (by rfl))) sss_nil)
    (sss_cons (ss_setLcX 2 [("word", 3)] rfl rfl C.tk C.hc C.nd (ei_seq (EN.ev (en_split (ev_ix (ev_var 1) ev_int) ev_str))) (blkOk_by (by kernel_rfl)) (fun _ _ _ _ _ _ => (eg_name 3 C.nd)) (fun _ _ _ _ _ _ => ets_nil) (fun _ _ _ _ _ _ _ hX => (ev_call f_number_in C.hr hX (by rfl) (ea_cons (ev_var 3) ea_nil))))
    (sss_cons (ss_if (et_cmp op_gt ops_gtI (ev_callB call_lenD cs_lenD (by rfl) zb.len (by decide +kernel) (eb_cons (ev_var 2) eb_nil)) ev_int (nomark _)) (sss_one (ss_raise e_NoText C.hc C.tk (by rfl))) sss_nil)
    (sss_one (ss_ret (ev_tup (ea_cons (ev_ix (ev_var 1) ev_int) (ea_cons (ev_if (et_cmp (op_eqD C.hr.units) ops_eqD (ev_callB call_lenD cs_lenD (by rfl) zb.len (by decide +kernel) (eb_cons (ev_var 2) eb_nil)) ev_int (nomark _)) (ev_callTy call_tuple_of cs_tupleD (by rfl) zb.tuple (by decide +kernel) (eb_cons (ev_var 2) eb_nil)) (ev_tup (ea_cons (ev_ix (ev_var 2) ev_int) (ea_cons ev_int ea_nil)))) ea_nil))))))))))
theorem sc_u_law_pick : FnScope ["script", "k", "many", "drawn"] ["script", "k", "many"] (defScope s_u_law_pick) := ⟨rfl, rfl, rfl, by decide +kernel, rfl, by decide +kernel, by decide +kernel⟩
theorem ok_u_law_pick {P : Program} {w : World} {K : PySem.W.Frag} {mg : Str → Option Value} {base : Heap} {f : Addr} {fd : FuncData} (F : FunD K (Str.ofString "_law_pick") (Str.ofString "_law_pick") (defArgs s_u_law_pick) (defBody s_u_law_pick) (defScope s_u_law_pick) [] [] f fd) (hm : mg (Str.ofString "_law_pick") = some (.ref f)) (zb : Bts mg) (f_u_law_cell : Fn P w K mg base 1 (Str.ofString "_law_cell") 2 F_u_law_cell) : Fn P w K mg base 2 (Str.ofString "_law_pick") 3 F_u_law_pick :=
  fn_def (N := ["script", "k", "many", "drawn"]) (ps := ["script", "k", "many"]) (k := 1) (fb := B_u_law_pick) F hm sc_u_law_pick (fun _ _ _ _ _ _ us hl => match us, hl with | [_, _, _], _ => rfl) (fun cdv A outer s H E C =>
    (sss_cons (ss_set 3 C.nd (ev_op op_modN ops_modI (ev_op op_mulD ops_mulD (ev_op op_addD ops_addD (ev_call f_u_law_cell C.hr C.hx (by rfl) (ea_cons (ev_var 0) (ea_cons (ev_var 1) ea_nil))) (ev_op op_mulD ops_mulD ev_int (ev_op op_addD ops_addD (ev_var 1) ev_int))) ev_int) ev_int))
    (sss_one (ss_ret (ev_op op_modN ops_modI (ev_op op_modN ops_modI (ev_op op_addD ops_addD (ev_op op_mulD ops_mulD (ev_var 3) (ev_var 3)) (ev_op op_fdivW ops_fdivI (ev_var 3) ev_int)) ev_int) (ev_var 2))))))
theorem sc_u_law_sum : FnScope ["some", "one", "up", "down"] ["some"] (defScope s_u_law_sum) := ⟨rfl, rfl, rfl, by decide +kernel, rfl, by decide +kernel, by decide +kernel⟩
theorem ok_u_law_sum {P : Program} {w : World} {K : PySem.W.Frag} {mg : Str → Option Value} {base : Heap} {f : Addr} {fd : FuncData} (F : FunD K (Str.ofString "_law_sum") (Str.ofString "_law_sum") (defArgs s_u_law_sum) (defBody s_u_law_sum) (defScope s_u_law_sum) [] [] f fd) (hm : mg (Str.ofString "_law_sum") = some (.ref f)) (zb : Bts mg) (f_u_law_low : Fn P w K mg base 1 (Str.ofString "_law_low") 2 F_u_law_low) : Fn P w K mg base 2 (Str.ofString "_law_sum") 1 F_u_law_sum :=
  fn_def (N := ["some", "one", "up", "down"]) (ps := ["some"]) (k := 1) (fb := B_u_law_sum) F hm sc_u_law_sum (fun _ _ _ _ _ _ us hl => match us, hl with | [_], _ => rfl) (fun cdv A outer s H E C =>
    (sss_cons (ss_asg (ev_tup (ea_cons ev_int (ea_cons ev_int ea_nil))) (eg_tup C.hc (egs_cons (eg_name 2 C.nd) (egs_cons (eg_name 3 C.nd) egs_nil))))
    (sss_cons (ss_for C.po C.hc (ei_seq (ev_var 0)) (eg_name 1 C.nd) (sss_one (ss_par 2 3 C.hc C.nd (ea_cons (ev_op op_addD ops_addD (ev_op op_mulD ops_mulD (ev_var 2) (ev_ix (ev_var 1) ev_int)) (ev_op op_mulD ops_mulD (ev_ix (ev_var 1) ev_int) (ev_var 3))) (ea_cons (ev_op op_mulD ops_mulD (ev_var 3) (ev_ix (ev_var 1) ev_int)) ea_nil)))))
    (sss_one (ss_ret (ev_call f_u_law_low C.hr C.hx (by rfl) (ea_cons (ev_var 2) (ea_cons (ev_var 3) ea_nil))))))))
theorem sc_plus : FnScope ["one", "other"] ["one", "other"] (defScope s_plus) := ⟨rfl, rfl, rfl, by decide +kernel, rfl, by decide +kernel, by decide +kernel⟩
theorem ok_plus {P : Program} {w : World} {K : PySem.W.Frag} {mg : Str → Option Value} {base : Heap} {f : Addr} {fd : FuncData} (F : FunD K (Str.ofString "plus") (Str.ofString "plus") (defArgs s_plus) (defBody s_plus) (defScope s_plus) [] [] f fd) (hm : mg (Str.ofString "plus") = some (.ref f)) (zb : Bts mg) (f_share : Fn P w K mg base 2 (Str.ofString "share") 2 F_share) : Fn P w K mg base 3 (Str.ofString "plus") 2 F_plus :=
  fn_def (N := ["one", "other"]) (ps := ["one", "other"]) (k := 2) (fb := B_plus) F hm sc_plus (fun _ _ _ _ _ _ us hl => match us, hl with | [_, _], _ => rfl) (fun cdv A outer s H E C =>
    (sss_one (ss_ret (ev_call f_share C.hr C.hx (by rfl) (ea_cons (ev_op op_addD ops_addD (ev_op op_mulD ops_mulD (ev_ix (ev_var 0) ev_int) (ev_ix (ev_var 1) ev_int)) (ev_op op_mulD ops_mulD (ev_ix (ev_var 1) ev_int) (ev_ix (ev_var 0) ev_int))) (ea_cons (ev_op op_mulD ops_mulD (ev_ix (ev_var 0) ev_int) (ev_ix (ev_var 1) ev_int)) ea_nil))))))
theorem sc_is_book : FnScope ["thing", "one", "other"] ["thing"] (defScope s_is_book) := ⟨rfl, rfl, rfl, by decide +kernel, rfl, by decide +kernel, by decide +kernel⟩
theorem ok_is_book {P : Program} {w : World} {K : PySem.W.Frag} {mg : Str → Option Value} {base : Heap} {f : Addr} {fd : FuncData} (F : FunD K (Str.ofString "is_book") (Str.ofString "is_book") (defArgs s_is_book) (defBody s_is_book) (defScope s_is_book) [] [] f fd) (hm : mg (Str.ofString "is_book") = some (.ref f)) (zb : Bts mg) (f_is_name : Fn P w K mg base 1 (Str.ofString "is_name") 1 F_is_name) (f_is_stand : Fn P w K mg base 2 (Str.ofString "is_stand") 1 F_is_stand) : Fn P w K mg base 3 (Str.ofString "is_book") 1 F_is_book :=
  fn_def (N := ["thing", "one", "other"]) (ps := ["thing"]) (k := 2) (fb := B_is_book) F hm sc_is_book (fun _ _ _ _ _ _ us hl => match us, hl with | [_], _ => rfl) (fun cdv A outer s H E C =>
    (sss_cons (ss_if (EW.et (ew_or (et_not (et_val (ev_isi "tuple" (by decide) (by rfl) zb.isinstance (by rfl) zb.tuple (by decide +kernel) (ev_var 0)))) (ew_or1 (et_not (et_chain op_leD ops_leD op_leD ops_leD ev_int (ev_callB call_lenD cs_lenD (by rfl) zb.len (by decide +kernel) (eb_cons (ev_var 0) eb_nil)) ev_int))))) (sss_one (ss_ret ev_bl)) sss_nil)
    (sss_cons (ss_if (et_not (et_val (ev_callB (cr_all C.hc) cs_all (by rfl) zb.all (by decide +kernel) (eb_cons (EN.ev (en_lc [("one", 1)] C.hc C.nd (ei_seq (ev_var 0)) (blkOk_by (by kernel_rfl)) (fun _ _ _ _ _ => (eg_name 1 C.nd)) (fun _ _ _ _ _ => ets_nil) (fun _ _ _ _ _ => (ev_and (ev_isi "tuple" (by decide) (by rfl) zb.isinstance (by rfl) zb.tuple (by decide +kernel) (ev_var 1)) (ev_and (ev_cmp (op_eqD C.hr.units) ops_eqD (ev_callB call_lenD cs_lenD (by rfl) zb.len (by decide +kernel) (eb_cons (ev_var 1) eb_nil)) ev_int (nomark _)) (ev_and (ev_call f_is_name C.hr passZ (by rfl) (ea_cons (ev_ix (ev_var 1) ev_int) ea_nil)) (ev_one (ev_call f_is_stand C.hr passZ (by rfl) (ea_cons (ev_ix (ev_var 1) ev_int) ea_nil))))))))) eb_nil)))) (sss_one (ss_ret ev_bl)) sss_nil)
    (sss_cons (ss_if (et_val (ev_callB (cr_any C.hc) cs_any (by rfl) zb.any (by decide +kernel) (eb_cons (EN.ev (en_lc [("one", 1)] C.hc C.nd (ei_seq (ev_var 0)) (blkOk_by (by kernel_rfl)) (fun _ _ _ _ _ => (eg_name 1 C.nd)) (fun _ _ _ _ _ => ets_nil) (fun _ _ _ _ _ => (ev_cmp (op_neD C.hr.units) ops_neD (ev_callB call_lenD cs_lenD (by rfl) zb.len (by decide +kernel) (eb_cons (ev_ix (ev_var 1) ev_int) eb_nil)) (ev_callB call_lenD cs_lenD (by rfl) zb.len (by decide +kernel) (eb_cons (ev_ix (ev_ix (ev_var 0) ev_int) ev_int) eb_nil)) (nomark _))))) eb_nil))) (sss_one (ss_ret ev_bl)) sss_nil)
    (sss_one (ss_ret (ev_callB (cr_all C.hc) cs_all (by rfl) zb.all (by decide +kernel) (eb_cons (EN.ev (en_lc [("one", 1), ("other", 2)] C.hc C.nd (ei_zip (by rfl) zb.zip (eb_cons (ev_var 0) (eb_cons (ev_slice (ev_var 0) (eo_some ev_int) eo_none) eb_nil))) (blkOk_by (by kernel_rfl)) (fun _ _ _ _ _ => (eg_tup C.hc (egs_cons (eg_name 1 C.nd) (egs_cons (eg_name 2 C.nd) egs_nil)))) (fun _ _ _ _ _ => ets_nil) (fun _ _ _ _ _ => (ev_cmp op_ltD ops_ltD (ev_ix (ev_var 1) ev_int) (ev_ix (ev_var 2) ev_int) (nomark _))))) eb_nil))))))))
theorem sc_u_law_book : FnScope ["script", "at", "joints", "some", "names", "made", "k", "name", "top", "here", "j"] ["script", "at"] (defScope s_u_law_book) := ⟨rfl, rfl, rfl, by decide +kernel, rfl, by decide +kernel, by decide +kernel⟩
theorem ok_u_law_book {P : Program} {w : World} {K : PySem.W.Frag} {mg : Str → Option Value} {base : Heap} {f : Addr} {fd : FuncData} (F : FunD K (Str.ofString "_law_book") (Str.ofString "_law_book") (defArgs s_u_law_book) (defBody s_u_law_book) (defScope s_u_law_book) [] [] f fd) (hm : mg (Str.ofString "_law_book") = some (.ref f)) (zb : Bts mg) (f_u_law_pick : Fn P w K mg base 2 (Str.ofString "_law_pick") 3 F_u_law_pick) : Fn P w K mg base 3 (Str.ofString "_law_book") 2 F_u_law_book :=
  fn_def (N := ["script", "at", "joints", "some", "names", "made", "k", "name", "top", "here", "j"]) (ps := ["script", "at"]) (k := 2) (fb := B_u_law_book) F hm sc_u_law_book (fun _ _ _ _ _ _ us hl => match us, hl with | [_, _], _ => rfl) (fun cdv A outer s H E C =>
    (sss_cons (ss_set 2 C.nd (ev_op op_addD ops_addD ev_int (ev_call f_u_law_pick C.hr C.hx (by rfl) (ea_cons (ev_var 0) (ea_cons (ev_var 1) (ea_cons ev_int ea_nil))))))
    (sss_cons (ss_set 3 C.nd (EN.ev (en_lst (ea_cons ev_str (ea_cons ev_str (ea_cons ev_str (ea_cons ev_str (ea_cons ev_str (ea_cons ev_str ea_nil)))))))))
    (sss_cons (ss_setLc 4 [("k", 6), ("name", 7)] C.hc C.nd (ei_enum (by rfl) zb.enumerate (eb_cons (ev_var 3) eb_nil)) (blkOk_by (by kernel_rfl)) (fun _ _ _ _ _ => (eg_tup C.hc (egs_cons (eg_name 6 C.nd) (egs_cons (eg_name 7 C.nd) egs_nil)))) (fun _ _ _ _ _ => (ets_one (et_cmp op_gt ops_gtI (ev_call f_u_law_pick C.hr passZ (by rfl) (ea_cons (ev_var 0) (ea_cons (ev_op op_addD ops_addD (ev_op op_addD ops_addD (ev_var 1) ev_int) (ev_var 6)) (ea_cons ev_int ea_nil)))) ev_int (nomark _)))) (fun _ _ _ _ _ => (ev_var 7)))
    (sss_cons (ss_setN 5 C.nd (en_lst ea_nil))
    (sss_cons (ss_for C.po C.hc (ei_enum (by rfl) zb.enumerate (eb_cons (ev_if (et_cmp (op_neD C.hr.units) ops_neD (ev_var 4) (EN.ev (en_lst ea_nil)) (nomark _)) (ev_var 4) (EN.ev (en_lst (ea_cons ev_str ea_nil)))) eb_nil)) (eg_tup C.hc (egs_cons (eg_name 6 C.nd) (egs_cons (eg_name 7 C.nd) egs_nil))) (sss_cons (ss_set 8 C.nd (ev_ix (EN.ev (en_lst (ea_cons ev_int (ea_cons ev_int (ea_cons ev_int ea_nil))))) (ev_call f_u_law_pick C.hr C.hx (by rfl) (ea_cons (ev_var 0) (ea_cons (ev_op op_addD ops_addD (ev_op op_addD ops_addD (ev_var 1) ev_int) (ev_var 6)) (ea_cons ev_int ea_nil))))))
    (sss_cons (ss_set 9 C.nd (ev_op op_addD ops_addD (ev_op op_addD ops_addD (ev_var 1) ev_int) (ev_op op_mulD ops_mulD ev_int (ev_var 6))))
    (sss_one (ss_app 5 (ev_tup (ea_cons (ev_var 7) (ea_cons (ev_callTy call_tuple_of cs_tupleD (by rfl) zb.tuple (by decide +kernel) (eb_cons (EN.ev (en_lc [("j", 10)] C.hc C.nd (ei_range1 (by rfl) zb.range (ea_cons (ev_var 2) ea_nil)) (blkOk_by (by kernel_rfl)) (fun _ _ _ _ _ => (eg_name 10 C.nd)) (fun _ _ _ _ _ => ets_nil) (fun _ _ _ _ _ => (ev_op op_addD ops_addD (ev_op op_sub ops_subI (ev_call f_u_law_pick C.hr passZ (by rfl) (ea_cons (ev_var 0) (ea_cons (ev_op op_addD ops_addD (ev_var 9) (ev_var 10)) (ea_cons (ev_op op_sub ops_subI (ev_op op_mulD ops_mulD ev_int (ev_var 8)) ev_int) ea_nil)))) (ev_var 8)) ev_int)))) eb_nil)) ea_nil))))))))
    (sss_one (ss_ret (ev_callTy call_tuple_of cs_tupleD (by rfl) zb.tuple (by decide +kernel) (eb_cons (ev_var 5) eb_nil))))))))))
theorem sc_u_law_shares : FnScope ["script", "at", "book", "weights", "whole", "k", "name", "many"] ["script", "at", "book"] (defScope s_u_law_shares) := ⟨rfl, rfl, rfl, by decide +kernel, rfl, by decide +kernel, by decide +kernel⟩
theorem ok_u_law_shares {P : Program} {w : World} {K : PySem.W.Frag} {mg : Str → Option Value} {base : Heap} {f : Addr} {fd : FuncData} (F : FunD K (Str.ofString "_law_shares") (Str.ofString "_law_shares") (defArgs s_u_law_shares) (defBody s_u_law_shares) (defScope s_u_law_shares) [] [] f fd) (hm : mg (Str.ofString "_law_shares") = some (.ref f)) (zb : Bts mg) (f_u_law_low : Fn P w K mg base 1 (Str.ofString "_law_low") 2 F_u_law_low) (f_u_law_names : Fn P w K mg base 1 (Str.ofString "_law_names") 1 F_u_law_names) (f_u_law_pick : Fn P w K mg base 2 (Str.ofString "_law_pick") 3 F_u_law_pick) : Fn P w K mg base 3 (Str.ofString "_law_shares") 3 F_u_law_shares :=
  fn_def (N := ["script", "at", "book", "weights", "whole", "k", "name", "many"]) (ps := ["script", "at", "book"]) (k := 2) (fb := B_u_law_shares) F hm sc_u_law_shares (fun _ _ _ _ _ _ us hl => match us, hl with | [_, _, _], _ => rfl) (fun cdv A outer s H E C =>
    (sss_cons (ss_setLc 3 [("k", 5), ("name", 6)] C.hc C.nd (ei_enum (by rfl) zb.enumerate (eb_cons (ev_call f_u_law_names C.hr C.hx (by rfl) (ea_cons (ev_var 2) ea_nil)) eb_nil)) (blkOk_by (by kernel_rfl)) (fun _ _ _ _ _ => (eg_tup C.hc (egs_cons (eg_name 5 C.nd) (egs_cons (eg_name 6 C.nd) egs_nil)))) (fun _ _ _ _ _ => ets_nil) (fun _ _ _ _ _ => (ev_tup (ea_cons (ev_var 6) (ea_cons (ev_call f_u_law_pick C.hr passZ (by rfl) (ea_cons (ev_var 0) (ea_cons (ev_op op_addD ops_addD (ev_var 1) (ev_var 5)) (ea_cons ev_int ea_nil)))) ea_nil)))))
    (sss_cons (ss_set 4 C.nd (ev_callB (cr_sum C.hc) cs_sum (by rfl) zb.sum (by decide +kernel) (eb_cons (EN.ev (en_lc [("name", 6), ("many", 7)] C.hc C.nd (ei_seq (ev_var 3)) (blkOk_by (by kernel_rfl)) (fun _ _ _ _ _ => (eg_tup C.hc (egs_cons (eg_name 6 C.nd) (egs_cons (eg_name 7 C.nd) egs_nil)))) (fun _ _ _ _ _ => ets_nil) (fun _ _ _ _ _ => (ev_var 7)))) eb_nil)))
    (sss_cons (ss_if (et_cmp (op_eqD C.hr.units) ops_eqD (ev_var 4) ev_int (nomark _)) (sss_one (ss_ret (EN.ev (en_lst (ea_cons (ev_tup (ea_cons (ev_ix (ev_call f_u_law_names C.hr C.hx (by rfl) (ea_cons (ev_var 2) ea_nil)) (ev_call f_u_law_pick C.hr C.hx (by rfl) (ea_cons (ev_var 0) (ea_cons (ev_op op_addD ops_addD (ev_var 1) ev_int) (ea_cons (ev_callB call_lenD cs_lenD (by rfl) zb.len (by decide +kernel) (eb_cons (ev_var 2) eb_nil)) ea_nil))))) (ea_cons (ev_tup (ea_cons ev_int (ea_cons ev_int ea_nil))) ea_nil))) ea_nil))))) sss_nil)
    (sss_one (ss_ret (EN.ev (en_lc [("name", 6), ("many", 7)] C.hc C.nd (ei_seq (ev_var 3)) (blkOk_by (by kernel_rfl)) (fun _ _ _ _ _ => (eg_tup C.hc (egs_cons (eg_name 6 C.nd) (egs_cons (eg_name 7 C.nd) egs_nil)))) (fun _ _ _ _ _ => (ets_one (et_cmp op_gt ops_gtI (ev_var 7) ev_int (nomark _)))) (fun _ _ _ _ _ => (ev_tup (ea_cons (ev_var 6) (ea_cons (ev_call f_u_law_low C.hr passZ (by rfl) (ea_cons (ev_var 7) (ea_cons (ev_var 4) ea_nil))) ea_nil))))))))))))
theorem sc_u_law_gathered : FnScope ["pairs", "made", "name", "whole", "one", "part"] ["pairs"] (defScope s_u_law_gathered) := ⟨rfl, rfl, rfl, by decide +kernel, rfl, by decide +kernel, by decide +kernel⟩
theorem ok_u_law_gathered {P : Program} {w : World} {K : PySem.W.Frag} {mg : Str → Option Value} {base : Heap} {f : Addr} {fd : FuncData} (F : FunD K (Str.ofString "_law_gathered") (Str.ofString "_law_gathered") (defArgs s_u_law_gathered) (defBody s_u_law_gathered) (defScope s_u_law_gathered) [] [] f fd) (hm : mg (Str.ofString "_law_gathered") = some (.ref f)) (zb : Bts mg) (f_u_law_sum : Fn P w K mg base 2 (Str.ofString "_law_sum") 1 F_u_law_sum) : Fn P w K mg base 3 (Str.ofString "_law_gathered") 1 F_u_law_gathered :=
  fn_def (N := ["pairs", "made", "name", "whole", "one", "part"]) (ps := ["pairs"]) (k := 2) (fb := B_u_law_gathered) F hm sc_u_law_gathered (fun _ _ _ _ _ _ us hl => match us, hl with | [_], _ => rfl) (fun cdv A outer s H E C =>
    (sss_cons (ss_setN 1 C.nd (en_lst ea_nil))
    (sss_cons (ss_for C.po C.hc (ei_seq (EN.ev (en_sortSet C.hc (by rfl) zb.sorted (by rfl) zb.set (EN.ev (en_lc [("one", 4), ("part", 5)] C.hc C.nd (ei_seq (ev_var 0)) (blkOk_by (by kernel_rfl)) (fun _ _ _ _ _ => (eg_tup C.hc (egs_cons (eg_name 4 C.nd) (egs_cons (eg_name 5 C.nd) egs_nil)))) (fun _ _ _ _ _ => ets_nil) (fun _ _ _ _ _ => (ev_var 4))))))) (eg_name 2 C.nd) (sss_cons (ss_set 3 C.nd (ev_call f_u_law_sum C.hr C.hx (by rfl) (ea_cons (EN.ev (en_lc [("one", 4), ("part", 5)] C.hc C.nd (ei_seq (ev_var 0)) (blkOk_by (by kernel_rfl)) (fun _ _ _ _ _ => (eg_tup C.hc (egs_cons (eg_name 4 C.nd) (egs_cons (eg_name 5 C.nd) egs_nil)))) (fun _ _ _ _ _ => (ets_one (et_cmp (op_eqD C.hr.units) ops_eqD (ev_var 4) (ev_var 2) (nomark _)))) (fun _ _ _ _ _ => (ev_var 5)))) ea_nil)))
    (sss_one (ss_ext 1 (ev_if (et_cmp (op_neD C.hr.units) ops_neD (ev_var 3) (ev_tup (ea_cons ev_int (ea_cons ev_int ea_nil))) (nomark _)) (EN.ev (en_lst (ea_cons (ev_tup (ea_cons (ev_var 2) (ea_cons (ev_var 3) ea_nil))) ea_nil))) (EN.ev (en_lst ea_nil)))))))
    (sss_one (ss_ret (ev_var 1))))))
theorem sc_u_law_worths : FnScope ["book", "shares", "joint", "stands", "made", "name", "part"] ["book", "shares"] (defScope s_u_law_worths) := ⟨rfl, rfl, rfl, by decide +kernel, rfl, by decide +kernel, by decide +kernel⟩
theorem ok_u_law_worths {P : Program} {w : World} {K : PySem.W.Frag} {mg : Str → Option Value} {base : Heap} {f : Addr} {fd : FuncData} (F : FunD K (Str.ofString "_law_worths") (Str.ofString "_law_worths") (defArgs s_u_law_worths) (defBody s_u_law_worths) (defScope s_u_law_worths) [] [] f fd) (hm : mg (Str.ofString "_law_worths") = some (.ref f)) (zb : Bts mg) (f_u_law_sum : Fn P w K mg base 2 (Str.ofString "_law_sum") 1 F_u_law_sum) : Fn P w K mg base 3 (Str.ofString "_law_worths") 2 F_u_law_worths :=
  fn_def (N := ["book", "shares", "joint", "stands", "made", "name", "part"]) (ps := ["book", "shares"]) (k := 2) (fb := B_u_law_worths) F hm sc_u_law_worths (fun _ _ _ _ _ _ us hl => match us, hl with | [_, _], _ => rfl) (fun cdv A outer s H E C =>
    (sss_cons (ss_asgX C.hc (ex_im (ev_callTy (call_dictA C.hc) cs_dictD (by rfl) zb.dict (by decide +kernel) (eb_cons (ev_var 0) eb_nil)) (ex_ol (en_lst ea_nil) ex_nil)) (gx_cons 3 C.nd (gx_cons 4 C.nd gx_nil)))
    (sss_cons (ss_for C.po C.hc (ei_range1 (by rfl) zb.range (ea_cons (ev_callB call_lenD cs_lenD (by rfl) zb.len (by decide +kernel) (eb_cons (ev_ix (ev_ix (ev_wk (ev_var 0)) ev_int) ev_int) eb_nil)) ea_nil)) (eg_name 2 C.nd) (sss_one (ss_app 4 (ev_call f_u_law_sum C.hr C.hx (by rfl) (ea_cons (EN.ev (en_lc [("name", 5), ("part", 6)] C.hc C.nd (ei_seq (ev_var 1)) (blkOk_by (by kernel_rfl)) (fun _ _ _ _ _ => (eg_tup C.hc (egs_cons (eg_name 5 C.nd) (egs_cons (eg_name 6 C.nd) egs_nil)))) (fun _ _ _ _ _ => ets_nil) (fun _ _ _ _ _ => (ev_tup (ea_cons (ev_op op_mulD ops_mulD (ev_ix (ev_var 6) ev_int) (ev_ix (ev_dget (units1 C.hr) (ev_dvar (ev_var 3)) (ev_var 5)) (ev_var 2))) (ea_cons (ev_ix (ev_var 6) ev_int) ea_nil)))))) ea_nil)))))
    (sss_one (ss_ret (ev_callTy call_tuple_of cs_tupleD (by rfl) zb.tuple (by decide +kernel) (eb_cons (ev_var 4) eb_nil)))))))
theorem sc_u_law_read : FnScope ["book", "text", "piece", "made", "last", "words", "numbers", "one", "part", "sign", "name"] ["book", "text"] (defScope s_u_law_read) := ⟨rfl, rfl, rfl, by decide +kernel, rfl, by decide +kernel, by decide +kernel⟩
theorem ok_u_law_read {P : Program} {w : World} {K : PySem.W.Frag} {mg : Str → Option Value} {base : Heap} {f : Addr} {fd : FuncData} (F : FunD K (Str.ofString "_law_read") (Str.ofString "_law_read") (defArgs s_u_law_read) (defBody s_u_law_read) (defScope s_u_law_read) [] [] f fd) (hm : mg (Str.ofString "_law_read") = some (.ref f)) (zb : Bts mg) (f_u_law_low : Fn P w K mg base 1 (Str.ofString "_law_low") 2 F_u_law_low) (f_u_law_names : Fn P w K mg base 1 (Str.ofString "_law_names") 1 F_u_law_names) (f_u_law_sum : Fn P w K mg base 2 (Str.ofString "_law_sum") 1 F_u_law_sum) : Fn P w K mg base 3 (Str.ofString "_law_read") 2 F_u_law_read :=
  fn_def (N := ["book", "text", "piece", "made", "last", "words", "numbers", "one", "part", "sign", "name"]) (ps := ["book", "text"]) (k := 2) (fb := B_u_law_read) F hm sc_u_law_read (fun _ _ _ _ _ _ us hl => match us, hl with | [_, _], _ => rfl) (fun cdv A outer s H E C =>
    (sss_cons (ss_parX 3 4 C.hc C.nd (ex_ol (en_lst ea_nil) (ex_im ev_str ex_nil)))
    (sss_cons (ss_for C.po C.hc (ei_seq (EN.ev (en_split (ev_var 1) ev_str))) (eg_name 2 C.nd) (sss_cons (ss_set 5 C.nd (EN.ev (en_split (ev_var 2) ev_str)))
    (sss_cons (ss_set 6 C.nd (EN.ev (en_split (ev_ix (ev_var 5) (ev_neg ev_int)) ev_str)))
    (sss_cons (ss_if (EW.et (ew_or (et_cmp (op_neD C.hr.units) ops_neD (ev_callB call_lenD cs_lenD (by rfl) zb.len (by decide +kernel) (eb_cons (ev_var 5) eb_nil)) ev_int (nomark _)) (ew_or (et_cmp op_notInG ops_inG (ev_ix (ev_var 5) ev_int) (ev_call f_u_law_names C.hr C.hx (by rfl) (ea_cons (ev_var 0) ea_nil)) (by rfl)) (ew_or (et_not (et_cmp op_ltD ops_ltD (ev_var 4) (ev_ix (ev_var 5) ev_int) (nomark _))) (ew_or1 (et_cmp op_gt ops_gtI (ev_callB call_lenD cs_lenD (by rfl) zb.len (by decide +kernel) (eb_cons (ev_var 6) eb_nil)) ev_int (nomark _))))))) (sss_one (ss_ret ev_str)) sss_nil)
    (sss_cons (ss_for C.po C.hc (ei_seq (ev_var 6)) (eg_name 7 C.nd) (sss_one (ss_if (EW.et (ew_or (et_cmp (op_eqD C.hr.units) ops_eqD (ev_var 7) ev_str (nomark _)) (ew_or (et_cmp (op_neD C.hr.units) ops_neD (EN.ev (en_lc [("sign", 9)] C.hc C.nd (ei_seq (ev_var 7)) (blkOk_by (by kernel_rfl)) (fun _ _ _ _ _ => (eg_name 9 C.nd)) (fun _ _ _ _ _ => (ets_one (et_not (et_chain op_leD ops_leD op_leD ops_leD ev_str (ev_var 9) ev_str)))) (fun _ _ _ _ _ => (ev_var 9)))) (EN.ev (en_lst ea_nil)) (nomark _)) (ew_or1 (et_cmp (op_eqD C.hr.units) ops_eqD (ev_ix (ev_var 7) ev_int) ev_str (nomark _)))))) (sss_one (ss_ret ev_str)) sss_nil)))
    (sss_cons (ss_set 8 C.nd (ev_tup (ea_cons (ev_callTy call_int_str cs_intTD (by rfl) (zb.int) (by decide +kernel) (eb_cons (ev_ix (ev_var 6) ev_int) eb_nil)) (ea_cons (ev_if (et_cmp (op_eqD C.hr.units) ops_eqD (ev_callB call_lenD cs_lenD (by rfl) zb.len (by decide +kernel) (eb_cons (ev_var 6) eb_nil)) ev_int (nomark _)) (ev_callTy call_int_str cs_intTD (by rfl) (zb.int) (by decide +kernel) (eb_cons (ev_ix (ev_var 6) ev_int) eb_nil)) ev_int) ea_nil))))
    (sss_cons (ss_if (EW.et (ew_or (et_cmp (op_neD C.hr.units) ops_neD (ev_call f_u_law_low C.hr C.hx (by rfl) (ea_cons (ev_ix (ev_var 8) ev_int) (ea_cons (ev_ix (ev_var 8) ev_int) ea_nil))) (ev_var 8) (nomark _)) (ew_or1 (EW.et (ew_and (et_cmp (op_eqD C.hr.units) ops_eqD (ev_callB call_lenD cs_lenD (by rfl) zb.len (by decide +kernel) (eb_cons (ev_var 6) eb_nil)) ev_int (nomark _)) (ew_and1 (et_cmp (op_eqD C.hr.units) ops_eqD (ev_ix (ev_var 8) ev_int) ev_int (nomark _)))))))) (sss_one (ss_ret ev_str)) sss_nil)
    (sss_cons (ss_set 4 C.nd (ev_ix (ev_var 5) ev_int))
    (sss_one (ss_app 3 (ev_tup (ea_cons (ev_var 4) (ea_cons (ev_var 8) ea_nil)))))))))))))
    (sss_frz 3 (sss_one (ss_ret (ev_if (et_cmp (op_eqD C.hr.units) ops_eqD (ev_call f_u_law_sum C.hr C.hx (by rfl) (ea_cons (EN.ev (en_lc [("name", 10), ("part", 8)] C.hc C.nd (ei_seq (ev_var 3)) (blkOk_by (by kernel_rfl)) (fun _ _ _ _ _ => (eg_tup C.hc (egs_cons (eg_name 10 C.nd) (egs_cons (eg_name 8 C.nd) egs_nil)))) (fun _ _ _ _ _ => ets_nil) (fun _ _ _ _ _ => (ev_var 8)))) ea_nil)) (ev_tup (ea_cons ev_int (ea_cons ev_int ea_nil))) (nomark _)) (ev_var 3) ev_str)))))))
theorem sc_summed : FnScope ["some", "made", "one"] ["some"] (defScope s_summed) := ⟨rfl, rfl, rfl, by decide +kernel, rfl, by decide +kernel, by decide +kernel⟩
theorem ok_summed {P : Program} {w : World} {K : PySem.W.Frag} {mg : Str → Option Value} {base : Heap} {f : Addr} {fd : FuncData} (F : FunD K (Str.ofString "summed") (Str.ofString "summed") (defArgs s_summed) (defBody s_summed) (defScope s_summed) [] [] f fd) (hm : mg (Str.ofString "summed") = some (.ref f)) (zb : Bts mg) (c_NOUGHT : Kon K mg (Str.ofString "NOUGHT") d_NOUGHT) (f_plus : Fn P w K mg base 3 (Str.ofString "plus") 2 F_plus) : Fn P w K mg base 4 (Str.ofString "summed") 1 F_summed :=
  fn_def (N := ["some", "made", "one"]) (ps := ["some"]) (k := 3) (fb := B_summed) F hm sc_summed (fun _ _ _ _ _ _ us hl => match us, hl with | [_], _ => rfl) (fun cdv A outer s H E C =>
    (sss_cons (ss_set 1 C.nd (ev_glob c_NOUGHT (by rfl)))
    (sss_cons (ss_for C.po C.hc (ei_seq (ev_var 0)) (eg_name 2 C.nd) (sss_one (ss_set 1 C.nd (ev_call f_plus C.hr C.hx (by rfl) (ea_cons (ev_var 1) (ea_cons (ev_var 2) ea_nil))))))
    (sss_one (ss_ret (ev_var 1))))))
theorem sc_look_book : FnScope ["book"] ["book"] (defScope s_look_book) := ⟨rfl, rfl, rfl, by decide +kernel, rfl, by decide +kernel, by decide +kernel⟩
theorem ok_look_book {P : Program} {w : World} {K : PySem.W.Frag} {mg : Str → Option Value} {base : Heap} {f : Addr} {fd : FuncData} (F : FunD K (Str.ofString "look_book") (Str.ofString "look_book") (defArgs s_look_book) (defBody s_look_book) (defScope s_look_book) [] [] f fd) (hm : mg (Str.ofString "look_book") = some (.ref f)) (zb : Bts mg) (e_NoBook : ErrC K mg (Str.ofString "NoBook")) (f_is_book : Fn P w K mg base 3 (Str.ofString "is_book") 1 F_is_book) : Fn P w K mg base 4 (Str.ofString "look_book") 1 F_look_book :=
  fn_def (N := ["book"]) (ps := ["book"]) (k := 3) (fb := B_look_book) F hm sc_look_book (fun _ _ _ _ _ _ us hl => match us, hl with | [_], _ => rfl) (fun cdv A outer s H E C =>
    (sss_one (ss_if (et_not (et_val (ev_call f_is_book C.hr C.hx (by rfl) (ea_cons (ev_var 0) ea_nil)))) (sss_one (ss_raise e_NoBook C.hc C.tk (by rfl))) sss_nil)))
theorem sc_u_law_led : FnScope ["one", "other", "part", "rest", "pairs", "name", "here"] ["one", "other", "part"] (defScope s_u_law_led) := ⟨rfl, rfl, rfl, by decide +kernel, rfl, by decide +kernel, by decide +kernel⟩
theorem ok_u_law_led {P : Program} {w : World} {K : PySem.W.Frag} {mg : Str → Option Value} {base : Heap} {f : Addr} {fd : FuncData} (F : FunD K (Str.ofString "_law_led") (Str.ofString "_law_led") (defArgs s_u_law_led) (defBody s_u_law_led) (defScope s_u_law_led) [] [] f fd) (hm : mg (Str.ofString "_law_led") = some (.ref f)) (zb : Bts mg) (f_u_law_gathered : Fn P w K mg base 3 (Str.ofString "_law_gathered") 1 F_u_law_gathered) (f_u_law_low : Fn P w K mg base 1 (Str.ofString "_law_low") 2 F_u_law_low) : Fn P w K mg base 4 (Str.ofString "_law_led") 3 F_u_law_led :=
  fn_def (N := ["one", "other", "part", "rest", "pairs", "name", "here"]) (ps := ["one", "other", "part"]) (k := 3) (fb := B_u_law_led) F hm sc_u_law_led (fun _ _ _ _ _ _ us hl => match us, hl with | [_, _, _], _ => rfl) (fun cdv A outer s H E C =>
    (sss_cons (ss_set 3 C.nd (ev_tup (ea_cons (ev_op op_sub ops_subI (ev_ix (ev_var 2) ev_int) (ev_ix (ev_var 2) ev_int)) (ea_cons (ev_ix (ev_var 2) ev_int) ea_nil))))
    (sss_cons (ss_setLc 4 [("name", 5), ("here", 6)] C.hc C.nd (ei_seq (ev_var 0)) (blkOk_by (by kernel_rfl)) (fun _ _ _ _ _ => (eg_tup C.hc (egs_cons (eg_name 5 C.nd) (egs_cons (eg_name 6 C.nd) egs_nil)))) (fun _ _ _ _ _ => ets_nil) (fun _ _ _ _ _ => (ev_tup (ea_cons (ev_var 5) (ea_cons (ev_call f_u_law_low C.hr passZ (by rfl) (ea_cons (ev_op op_mulD ops_mulD (ev_ix (ev_var 6) ev_int) (ev_ix (ev_var 3) ev_int)) (ea_cons (ev_op op_mulD ops_mulD (ev_ix (ev_var 6) ev_int) (ev_ix (ev_var 3) ev_int)) ea_nil))) ea_nil)))))
    (sss_one (ss_ret (ev_call f_u_law_gathered C.hr C.hx (by rfl) (ea_cons (ev_op op_addD ops_addD (ev_var 4) (EN.ev (en_lc [("name", 5), ("here", 6)] C.hc C.nd (ei_seq (ev_var 1)) (blkOk_by (by kernel_rfl)) (fun _ _ _ _ _ => (eg_tup C.hc (egs_cons (eg_name 5 C.nd) (egs_cons (eg_name 6 C.nd) egs_nil)))) (fun _ _ _ _ _ => ets_nil) (fun _ _ _ _ _ => (ev_tup (ea_cons (ev_var 5) (ea_cons (ev_call f_u_law_low C.hr passZ (by rfl) (ea_cons (ev_op op_mulD ops_mulD (ev_ix (ev_var 6) ev_int) (ev_ix (ev_var 2) ev_int)) (ea_cons (ev_op op_mulD ops_mulD (ev_ix (ev_var 6) ev_int) (ev_ix (ev_var 2) ev_int)) ea_nil))) ea_nil))))))) ea_nil)))))))
theorem sc_are_shares_in : FnScope ["book", "thing", "one", "names"] ["book", "thing"] (defScope s_are_shares_in) := ⟨rfl, rfl, rfl, by decide +kernel, rfl, by decide +kernel, by decide +kernel⟩
theorem ok_are_shares_in {P : Program} {w : World} {K : PySem.W.Frag} {mg : Str → Option Value} {base : Heap} {f : Addr} {fd : FuncData} (F : FunD K (Str.ofString "are_shares_in") (Str.ofString "are_shares_in") (defArgs s_are_shares_in) (defBody s_are_shares_in) (defScope s_are_shares_in) [] [] f fd) (hm : mg (Str.ofString "are_shares_in") = some (.ref f)) (zb : Bts mg) (c_ONE : Kon K mg (Str.ofString "ONE") d_ONE) (f_has_name : Fn P w K mg base 2 (Str.ofString "has_name") 2 F_has_name) (f_is_fraction : Fn P w K mg base 2 (Str.ofString "is_fraction") 1 F_is_fraction) (f_summed : Fn P w K mg base 4 (Str.ofString "summed") 1 F_summed) : Fn P w K mg base 5 (Str.ofString "are_shares_in") 2 F_are_shares_in :=
  fn_def (N := ["book", "thing", "one", "names"]) (ps := ["book", "thing"]) (k := 4) (fb := B_are_shares_in) F hm sc_are_shares_in (fun _ _ _ _ _ _ us hl => match us, hl with | [_, _], _ => rfl) (fun cdv A outer s H E C =>
    (sss_cons (ss_if (et_not (et_val (ev_isi2 "list" "tuple" (by decide) (by decide) (by rfl) zb.isinstance (by rfl) zb.list (by decide +kernel) (by rfl) zb.tuple (by decide +kernel) (ev_var 1)))) (sss_one (ss_ret ev_bl)) sss_nil)
    (sss_cons (ss_for C.po C.hc (ei_seq (ev_var 1)) (eg_name 2 C.nd) (sss_cons (ss_if (EW.et (ew_or (et_not (et_val (ev_isi "tuple" (by decide) (by rfl) zb.isinstance (by rfl) zb.tuple (by decide +kernel) (ev_var 2)))) (ew_or (et_cmp (op_neD C.hr.units) ops_neD (ev_callB call_lenD cs_lenD (by rfl) zb.len (by decide +kernel) (eb_cons (ev_var 2) eb_nil)) ev_int (nomark _)) (ew_or1 (et_not (et_val (ev_call f_has_name C.hr C.hx (by rfl) (ea_cons (ev_var 0) (ea_cons (ev_ix (ev_var 2) ev_int) ea_nil))))))))) (sss_one (ss_ret ev_bl)) sss_nil)
    (sss_one (ss_if (EW.et (ew_or (et_not (et_val (ev_call f_is_fraction C.hr C.hx (by rfl) (ea_cons (ev_ix (ev_var 2) ev_int) ea_nil)))) (ew_or1 (et_cmp op_leD ops_leD (ev_ix (ev_ix (ev_var 2) ev_int) ev_int) ev_int (nomark _))))) (sss_one (ss_ret ev_bl)) sss_nil))))
    (sss_cons (ss_setLc 3 [("one", 2)] C.hc C.nd (ei_seq (ev_var 1)) (blkOk_by (by kernel_rfl)) (fun _ _ _ _ _ => (eg_name 2 C.nd)) (fun _ _ _ _ _ => ets_nil) (fun _ _ _ _ _ => (ev_ix (ev_var 2) ev_int)))
    (sss_one (ss_ret (ev_and (ev_cmp (op_eqD C.hr.units) ops_eqD (ev_var 3) (EN.ev (en_sortSet C.hc (by rfl) zb.sorted (by rfl) zb.set (ev_var 3))) (nomark _)) (ev_one (ev_cmp (op_eqD C.hr.units) ops_eqD (ev_call f_summed C.hr C.hx (by rfl) (ea_cons (EN.ev (en_lc [("one", 2)] C.hc C.nd (ei_seq (ev_var 1)) (blkOk_by (by kernel_rfl)) (fun _ _ _ _ _ => (eg_name 2 C.nd)) (fun _ _ _ _ _ => ets_nil) (fun _ _ _ _ _ => (ev_ix (ev_var 2) ev_int)))) ea_nil)) (ev_glob c_ONE (by rfl)) (nomark _))))))))))
theorem sc_look_shares : FnScope ["book", "shares"] ["book", "shares"] (defScope s_look_shares) := ⟨rfl, rfl, rfl, by decide +kernel, rfl, by decide +kernel, by decide +kernel⟩
theorem ok_look_shares {P : Program} {w : World} {K : PySem.W.Frag} {mg : Str → Option Value} {base : Heap} {f : Addr} {fd : FuncData} (F : FunD K (Str.ofString "look_shares") (Str.ofString "look_shares") (defArgs s_look_shares) (defBody s_look_shares) (defScope s_look_shares) [] [] f fd) (hm : mg (Str.ofString "look_shares") = some (.ref f)) (zb : Bts mg) (e_NoShares : ErrC K mg (Str.ofString "NoShares")) (f_are_shares_in : Fn P w K mg base 5 (Str.ofString "are_shares_in") 2 F_are_shares_in) : Fn P w K mg base 6 (Str.ofString "look_shares") 2 F_look_shares :=
  fn_def (N := ["book", "shares"]) (ps := ["book", "shares"]) (k := 5) (fb := B_look_shares) F hm sc_look_shares (fun _ _ _ _ _ _ us hl => match us, hl with | [_, _], _ => rfl) (fun cdv A outer s H E C =>
    (sss_one (ss_if (et_not (et_val (ev_call f_are_shares_in C.hr C.hx (by rfl) (ea_cons (ev_var 0) (ea_cons (ev_var 1) ea_nil))))) (sss_one (ss_raise e_NoShares C.hc C.tk (by rfl))) sss_nil)))
theorem sc_read_shares : FnScope ["book", "text", "made", "piece"] ["book", "text"] (defScope s_read_shares) := ⟨rfl, rfl, rfl, by decide +kernel, rfl, by decide +kernel, by decide +kernel⟩
theorem ok_read_shares {P : Program} {w : World} {K : PySem.W.Frag} {mg : Str → Option Value} {base : Heap} {f : Addr} {fd : FuncData} (F : FunD K (Str.ofString "read_shares") (Str.ofString "read_shares") (defArgs s_read_shares) (defBody s_read_shares) (defScope s_read_shares) [] [] f fd) (hm : mg (Str.ofString "read_shares") = some (.ref f)) (zb : Bts mg) (e_NoText : ErrC K mg (Str.ofString "NoText")) (f_are_shares_in : Fn P w K mg base 5 (Str.ofString "are_shares_in") 2 F_are_shares_in) (f_look_book : Fn P w K mg base 4 (Str.ofString "look_book") 1 F_look_book) (f_share_in : Fn P w K mg base 2 (Str.ofString "share_in") 1 F_share_in) (f_text_of : Fn P w K mg base 2 (Str.ofString "text_of") 1 F_text_of) : Fn P w K mg base 6 (Str.ofString "read_shares") 2 F_read_shares :=
  fn_def (N := ["book", "text", "made", "piece"]) (ps := ["book", "text"]) (k := 5) (fb := B_read_shares) F hm sc_read_shares (fun _ _ _ _ _ _ us hl => match us, hl with | [_, _], _ => rfl) (fun cdv A outer s H E C =>
    (sss_cons (ss_expr (ev_call f_look_book C.hr C.hx (by rfl) (ea_cons (ev_var 0) ea_nil)))
    (sss_cons (ss_if (et_not (et_val (ev_isi "str" (by decide) (by rfl) zb.isinstance (by rfl) zb.str (by decide +kernel) (ev_var 1)))) (sss_one (ss_raise e_NoText C.hc C.tk (by rfl))) sss_nil)
    (sss_cons (ss_setLcX 2 [("piece", 3)] rfl rfl C.tk C.hc C.nd (ei_seq (EN.ev (en_split (ev_var 1) ev_str))) (blkOk_by (by kernel_rfl)) (fun _ _ _ _ _ _ => (eg_name 3 C.nd)) (fun _ _ _ _ _ _ => ets_nil) (fun _ _ _ _ _ _ _ hX => (ev_call f_share_in C.hr hX (by rfl) (ea_cons (ev_var 3) ea_nil))))
    (sss_cons (ss_if (EW.et (ew_or (et_not (et_val (ev_call f_are_shares_in C.hr C.hx (by rfl) (ea_cons (ev_var 0) (ea_cons (ev_var 2) ea_nil))))) (ew_or1 (et_cmp (op_neD C.hr.units) ops_neD (ev_call f_text_of C.hr C.hx (by rfl) (ea_cons (ev_var 2) ea_nil)) (ev_var 1) (nomark _))))) (sss_one (ss_raise e_NoText C.hc C.tk (by rfl))) sss_nil)
    (sss_one (ss_ret (ev_var 2))))))))
theorem sc_shares_text : FnScope ["book", "shares"] ["book", "shares"] (defScope s_shares_text) := ⟨rfl, rfl, rfl, by decide +kernel, rfl, by decide +kernel, by decide +kernel⟩
theorem ok_shares_text {P : Program} {w : World} {K : PySem.W.Frag} {mg : Str → Option Value} {base : Heap} {f : Addr} {fd : FuncData} (F : FunD K (Str.ofString "shares_text") (Str.ofString "shares_text") (defArgs s_shares_text) (defBody s_shares_text) (defScope s_shares_text) [] [] f fd) (hm : mg (Str.ofString "shares_text") = some (.ref f)) (zb : Bts mg) (f_look_book : Fn P w K mg base 4 (Str.ofString "look_book") 1 F_look_book) (f_look_shares : Fn P w K mg base 6 (Str.ofString "look_shares") 2 F_look_shares) (f_text_of : Fn P w K mg base 2 (Str.ofString "text_of") 1 F_text_of) : Fn P w K mg base 7 (Str.ofString "shares_text") 2 F_shares_text :=
  fn_def (N := ["book", "shares"]) (ps := ["book", "shares"]) (k := 6) (fb := B_shares_text) F hm sc_shares_text (fun _ _ _ _ _ _ us hl => match us, hl with | [_, _], _ => rfl) (fun cdv A outer s H E C =>
    (sss_cons (ss_expr (ev_call f_look_book C.hr C.hx (by rfl) (ea_cons (ev_var 0) ea_nil)))
    (sss_cons (ss_expr (ev_call f_look_shares C.hr C.hx (by rfl) (ea_cons (ev_var 0) (ea_cons (ev_var 1) ea_nil))))
    (sss_one (ss_ret (ev_call f_text_of C.hr C.hx (by rfl) (ea_cons (ev_var 1) ea_nil)))))))
theorem sc_u_law_do : FnScope ["what", "book", "thing", "kept", "answer", "e"] ["what", "book", "thing"] (defScope s_u_law_do) := ⟨rfl, rfl, rfl, by decide +kernel, rfl, by decide +kernel, by decide +kernel⟩
theorem ok_u_law_do {P : Program} {w : World} {K : PySem.W.Frag} {mg : Str → Option Value} {base : Heap} {f : Addr} {fd : FuncData} (F : FunD K (Str.ofString "_law_do") (Str.ofString "_law_do") (defArgs s_u_law_do) (defBody s_u_law_do) (defScope s_u_law_do) [] [] f fd) (hm : mg (Str.ofString "_law_do") = some (.ref f)) (zb : Bts mg) (zx : ErrX K mg ecs exs) (f_u_law_word : Fn P w K mg base 1 (Str.ofString "_law_word") 1 F_u_law_word) (f_read_shares : Fn P w K mg base 6 (Str.ofString "read_shares") 2 F_read_shares) (f_shares_text : Fn P w K mg base 7 (Str.ofString "shares_text") 2 F_shares_text) : Fn P w K mg base 8 (Str.ofString "_law_do") 3 F_u_law_do :=
  fn_def (N := ["what", "book", "thing", "kept", "answer", "e"]) (ps := ["what", "book", "thing"]) (k := 7) (fb := B_u_law_do) F hm sc_u_law_do (fun _ _ _ _ _ _ us hl => match us, hl with | [_, _, _], _ => rfl) (fun cdv A outer s H E C =>
    (sss_cons (ss_set 3 C.nd ev_non)
    (sss_cons (ss_set 4 C.nd ev_non)
    (sss_cons (ss_try 5 3 ecs C rfl rfl rfl zx.bl (by rfl) zx.cat (fun W pn xe C => (sss1_one (ss1_set 4 C.nd (ev_if (et_cmp (op_eqD C.hr.units) ops_eqD (ev_var 0) ev_int (nomark _)) (ev_call f_shares_text C.hr C.hx (by rfl) (ea_cons (ev_var 1) (ea_cons (ev_var 2) ea_nil))) (ev_call f_read_shares C.hr C.hx (by rfl) (ea_cons (ev_var 1) (ea_cons (ev_var 2) ea_nil))))))))
    (sss_cons (ss_if (et_cmp op_isD ops_isD (ev_var 3) ev_non (nomark _)) (sss_one (ss_ret (ev_var 4))) sss_nil)
    (sss_one (ss_ret (ev_call f_u_law_word C.hr C.hx (by rfl) (ea_cons (ev_var 3) ea_nil)))))))))
theorem sc_law : FnScope ["script", "book", "some", "shares", "name", "odd", "text", "k", "spoilt", "thing", "what"] ["script"] (defScope s_law) := ⟨rfl, rfl, rfl, by decide +kernel, rfl, by decide +kernel, by decide +kernel⟩
theorem okl_law {P : Program} {w : World} {K : PySem.W.Frag} {mg : Str → Option Value} {base : Heap} {f : Addr} {fd : FuncData} (F : FunD K (Str.ofString "law") (Str.ofString "law") (defArgs s_law) (defBody s_law) (defScope s_law) [] [] f fd) (zb : Bts mg) (f_u_law_book : Fn P w K mg base 3 (Str.ofString "_law_book") 2 F_u_law_book) (f_u_law_do : Fn P w K mg base 8 (Str.ofString "_law_do") 3 F_u_law_do) (f_u_law_led : Fn P w K mg base 4 (Str.ofString "_law_led") 3 F_u_law_led) (f_u_law_pick : Fn P w K mg base 2 (Str.ofString "_law_pick") 3 F_u_law_pick) (f_u_law_read : Fn P w K mg base 3 (Str.ofString "_law_read") 2 F_u_law_read) (f_u_law_shares : Fn P w K mg base 3 (Str.ofString "_law_shares") 3 F_u_law_shares) (f_u_law_spoilt : Fn P w K mg base 1 (Str.ofString "_law_spoilt") 3 F_u_law_spoilt) (f_u_law_written : Fn P w K mg base 1 (Str.ofString "_law_written") 1 F_u_law_written) : FnOk P w K mg base (L2.CX P w) 9 f fd ["script"] (spF K mg 1 F_law) :=
  fn_ok (N := ["script", "book", "some", "shares", "name", "odd", "text", "k", "spoilt", "thing", "what"]) (ps := ["script"]) (k := 8) (fb := B_law) F sc_law (fun cdv A outer s H E C =>
    (sss_cons (ss_set 1 C.nd (ev_call f_u_law_book C.hr C.hx (by rfl) (ea_cons (ev_var 0) (ea_cons ev_int ea_nil))))
    (sss_cons (ss_setLcN 2 [("k", 7)] C.hc C.nd (ei_range1 (by rfl) zb.range (ea_cons ev_int ea_nil)) (blkOk_by (by kernel_rfl)) (fun _ _ _ _ _ => (eg_name 7 C.nd)) (fun _ _ _ _ _ => ets_nil) (fun _ _ _ _ _ => (ev_call f_u_law_shares C.hr passZ (by rfl) (ea_cons (ev_var 0) (ea_cons (ev_op op_addD ops_addD ev_int (ev_op op_mulD ops_mulD ev_int (ev_var 7))) (ea_cons (ev_var 1) ea_nil))))))
    (sss_cons (ss_app 2 (ev_call f_u_law_led C.hr C.hx (by rfl) (ea_cons (ev_ix (ev_var 2) ev_int) (ea_cons (ev_ix (ev_var 2) ev_int) (ea_cons (ev_tup (ea_cons ev_int (ea_cons ev_int ea_nil))) ea_nil)))))
    (sss_frz 2 (sss_cons (ss_for C.po C.hc (ei_seq (ev_var 2)) (eg_name 3 C.nd) (sss_cons (ss_set 6 C.nd (ev_call f_u_law_written C.hr C.hx (by rfl) (ea_cons (ev_var 3) ea_nil)))
    (sss_cons (ss_if (EW.et (ew_or (et_cmp (op_neD C.hr.units) ops_neD (ev_call f_u_law_do C.hr C.hx (by rfl) (ea_cons ev_int (ea_cons (ev_var 1) (ea_cons (ev_var 3) ea_nil)))) (ev_var 6) (nomark _)) (ew_or1 (et_cmp (op_neD C.hr.units) ops_neD (ev_call f_u_law_do C.hr C.hx (by rfl) (ea_cons ev_int (ea_cons (ev_var 1) (ea_cons (ev_callTy call_tuple_of cs_tupleD (by rfl) zb.tuple (by decide +kernel) (eb_cons (ev_var 3) eb_nil)) ea_nil)))) (ev_var 6) (nomark _))))) (sss_one (ss_ret ev_bl)) sss_nil)
    (sss_cons (ss_if (et_cmp (op_neD C.hr.units) ops_neD (ev_call f_u_law_do C.hr C.hx (by rfl) (ea_cons ev_int (ea_cons (ev_var 1) (ea_cons (ev_var 6) ea_nil)))) (ev_var 3) (nomark _)) (sss_one (ss_ret ev_bl)) sss_nil)
    (sss_one (ss_for C.po C.hc (ei_range1 (by rfl) zb.range (ea_cons ev_int ea_nil)) (eg_name 7 C.nd) (sss_cons (ss_set 8 C.nd (ev_call f_u_law_spoilt C.hr C.hx (by rfl) (ea_cons (ev_var 6) (ea_cons (ev_call f_u_law_pick C.hr C.hx (by rfl) (ea_cons (ev_var 0) (ea_cons (ev_op op_addD ops_addD ev_int (ev_var 7)) (ea_cons (ev_op op_powN ops_powI ev_int ev_int) ea_nil)))) (ea_cons (ev_ix (EN.ev (en_lst (ea_cons ev_str (ea_cons ev_str ea_nil)))) (ev_op op_modN ops_modI (ev_var 7) ev_int)) ea_nil)))))
    (sss_one (ss_if (et_cmp (op_neD C.hr.units) ops_neD (ev_call f_u_law_do C.hr C.hx (by rfl) (ea_cons ev_int (ea_cons (ev_var 1) (ea_cons (ev_var 8) ea_nil)))) (ev_call f_u_law_read C.hr C.hx (by rfl) (ea_cons (ev_var 1) (ea_cons (ev_var 8) ea_nil))) (nomark _)) (sss_one (ss_ret ev_bl)) sss_nil)))))))))
    (sss_cons (ss_set 4 C.nd (ev_ix (ev_ix (ev_var 1) ev_int) ev_int))
    (sss_cons (ss_setN 5 C.nd (en_lst (ea_cons ev_str (ea_cons (ev_var 4) (ea_cons (ev_op op_addD ops_addD (ev_var 4) ev_str) (ea_cons (ev_op op_addD ops_addD (ev_var 4) ev_str) (ea_cons (ev_op op_addD ops_addD (ev_var 4) ev_str) (ea_cons (ev_op op_addD ops_addD (ev_op op_addD ops_addD ev_str (ev_var 4)) ev_str) (ea_cons (ev_op op_addD ops_addD (ev_var 4) ev_str) ea_nil)))))))))
    (sss_cons (ss_ext 5 (EN.ev (en_lst (ea_cons (ev_op op_addD ops_addD (ev_var 4) ev_str) (ea_cons (ev_op op_addD ops_addD (ev_var 4) ev_str) ea_nil)))))
    (sss_cons (ss_ext 5 (EN.ev (en_lst (ea_cons (ev_op op_addD ops_addD (ev_var 4) ev_str) (ea_cons (ev_op op_addD ops_addD (ev_var 4) ev_str) (ea_cons ev_str (ea_cons (ev_op op_addD ops_addD (ev_var 4) ev_str) (ea_cons (ev_op op_addD ops_addD (ev_var 4) ev_str) ea_nil))))))))
    (sss_cons (ss_ext 5 (EN.ev (en_lst (ea_cons (ev_op op_addD ops_addD (ev_op op_addD ops_addD (ev_op op_addD ops_addD (ev_var 4) ev_str) (ev_var 4)) ev_str) (ea_cons (ev_op op_addD ops_addD (ev_var 4) ev_str) ea_nil)))))
    (sss_cons (ss_ext 5 (EN.ev (en_lst (ea_cons (ev_op op_addD ops_addD (ev_op op_addD ops_addD (ev_op op_addD ops_addD (ev_var 4) ev_str) (ev_var 4)) ev_str) (ea_cons (ev_op op_addD ops_addD (ev_var 4) ev_str) (ea_cons ev_non (ea_cons ev_int (ea_cons (EN.ev (en_lst (ea_cons (ev_tup (ea_cons (ev_var 4) (ea_cons (ev_tup (ea_cons ev_int (ea_cons ev_int ea_nil))) ea_nil))) ea_nil))) (ea_cons (ev_tup (ea_cons (ev_var 4) (ea_cons ev_str ea_nil))) ea_nil)))))))))
    (sss_cons (ss_if (et_cmp (op_neD C.hr.units) ops_neD (EN.ev (en_lc [("text", 6)] C.hc C.nd (ei_seq (ev_var 5)) (blkOk_by (by kernel_rfl)) (fun _ _ _ _ _ => (eg_name 6 C.nd)) (fun _ _ _ _ _ => ets_nil) (fun _ _ _ _ _ => (ev_call f_u_law_do C.hr passZ (by rfl) (ea_cons ev_int (ea_cons (ev_var 1) (ea_cons (ev_var 6) ea_nil))))))) (ev_op op_mulD ops_mulD (EN.ev (en_lst (ea_cons ev_str ea_nil))) ev_int) (nomark _)) (sss_one (ss_ret ev_bl)) sss_nil)
    (sss_cons (ss_if (et_cmp (op_neD C.hr.units) ops_neD (ev_call f_u_law_do C.hr C.hx (by rfl) (ea_cons ev_int (ea_cons (ev_var 1) (ea_cons (ev_op op_addD ops_addD (ev_var 4) ev_str) ea_nil)))) (EN.ev (en_lst (ea_cons (ev_tup (ea_cons (ev_var 4) (ea_cons (ev_tup (ea_cons ev_int (ea_cons ev_int ea_nil))) ea_nil))) ea_nil))) (nomark _)) (sss_one (ss_ret ev_bl)) sss_nil)
    (sss_cons (ss_setN 5 C.nd (en_lst (ea_cons ev_non (ea_cons (EN.ev (en_lst ea_nil)) (ea_cons (EN.ev (en_lst (ea_cons (ev_tup (ea_cons (ev_var 4) (ea_cons (ev_tup (ea_cons ev_int (ea_cons ev_int ea_nil))) ea_nil))) ea_nil))) (ea_cons (ev_op op_addD ops_addD (ev_var 4) ev_str) (ea_cons (EN.ev (en_lst (ea_cons (ev_tup (ea_cons (ev_var 4) (ea_cons ev_int ea_nil))) ea_nil))) (ea_cons (EN.ev (en_lst (ea_cons (ev_tup (ea_cons ev_str (ea_cons (ev_tup (ea_cons ev_int (ea_cons ev_int ea_nil))) ea_nil))) ea_nil))) ea_nil))))))))
    (sss_cons (ss_if (et_cmp (op_neD C.hr.units) ops_neD (EN.ev (en_lc [("thing", 9)] C.hc C.nd (ei_seq (ev_var 5)) (blkOk_by (by kernel_rfl)) (fun _ _ _ _ _ => (eg_name 9 C.nd)) (fun _ _ _ _ _ => ets_nil) (fun _ _ _ _ _ => (ev_call f_u_law_do C.hr passZ (by rfl) (ea_cons ev_int (ea_cons (ev_var 1) (ea_cons (ev_var 9) ea_nil))))))) (ev_op op_mulD ops_mulD (EN.ev (en_lst (ea_cons ev_str ea_nil))) ev_int) (nomark _)) (sss_one (ss_ret ev_bl)) sss_nil)
    (sss_one (ss_ret (ev_cmp (op_eqD C.hr.units) ops_eqD (EN.ev (en_lc [("what", 10)] C.hc C.nd (ei_range1 (by rfl) zb.range (ea_cons ev_int ea_nil)) (blkOk_by (by kernel_rfl)) (fun _ _ _ _ _ => (eg_name 10 C.nd)) (fun _ _ _ _ _ => ets_nil) (fun _ _ _ _ _ => (ev_call f_u_law_do C.hr passZ (by rfl) (ea_cons (ev_var 10) (ea_cons ev_non (ea_cons ev_non ea_nil))))))) (ev_op op_mulD ops_mulD (EN.ev (en_lst (ea_cons ev_str ea_nil))) ev_int) (nomark _))))))))))))))))))))
end PL.W60
end
section
open PySem PySem.Spec PyProof.Rows L2 PL.G
namespace PL.W60
def dd_is_whole : He.DefD := ⟨((Str.ofString "is_whole"), none), (Str.ofString "is_whole"), (Str.ofString "is_whole"), defArgs s_is_whole, defBody s_is_whole, defScope s_is_whole, [], []⟩
def dd_greatest_in : He.DefD := ⟨((Str.ofString "greatest_in"), none), (Str.ofString "greatest_in"), (Str.ofString "greatest_in"), defArgs s_greatest_in, defBody s_greatest_in, defScope s_greatest_in, [], []⟩
def dd_is_name : He.DefD := ⟨((Str.ofString "is_name"), none), (Str.ofString "is_name"), (Str.ofString "is_name"), defArgs s_is_name, defBody s_is_name, defScope s_is_name, [], []⟩
def dd_fraction_text : He.DefD := ⟨((Str.ofString "fraction_text"), none), (Str.ofString "fraction_text"), (Str.ofString "fraction_text"), defArgs s_fraction_text, defBody s_fraction_text, defScope s_fraction_text, [], []⟩
def dd_number_in : He.DefD := ⟨((Str.ofString "number_in"), none), (Str.ofString "number_in"), (Str.ofString "number_in"), defArgs s_number_in, defBody s_number_in, defScope s_number_in, [], []⟩
def dd_u_law_cell : He.DefD := ⟨((Str.ofString "_law_cell"), none), (Str.ofString "_law_cell"), (Str.ofString "_law_cell"), defArgs s_u_law_cell, defBody s_u_law_cell, defScope s_u_law_cell, [], []⟩
def dd_u_law_spoilt : He.DefD := ⟨((Str.ofString "_law_spoilt"), none), (Str.ofString "_law_spoilt"), (Str.ofString "_law_spoilt"), defArgs s_u_law_spoilt, defBody s_u_law_spoilt, defScope s_u_law_spoilt, [], []⟩
def dd_u_law_word : He.DefD := ⟨((Str.ofString "_law_word"), none), (Str.ofString "_law_word"), (Str.ofString "_law_word"), defArgs s_u_law_word, defBody s_u_law_word, defScope s_u_law_word, [], []⟩
def dd_u_law_low : He.DefD := ⟨((Str.ofString "_law_low"), none), (Str.ofString "_law_low"), (Str.ofString "_law_low"), defArgs s_u_law_low, defBody s_u_law_low, defScope s_u_law_low, [], []⟩
def dd_u_law_names : He.DefD := ⟨((Str.ofString "_law_names"), none), (Str.ofString "_law_names"), (Str.ofString "_law_names"), defArgs s_u_law_names, defBody s_u_law_names, defScope s_u_law_names, [], []⟩
def dd_u_law_written : He.DefD := ⟨((Str.ofString "_law_written"), none), (Str.ofString "_law_written"), (Str.ofString "_law_written"), defArgs s_u_law_written, defBody s_u_law_written, defScope s_u_law_written, [], []⟩
def dd_share : He.DefD := ⟨((Str.ofString "share"), none), (Str.ofString "share"), (Str.ofString "share"), defArgs s_share, defBody s_share, defScope s_share, [], []⟩
def dd_is_fraction : He.DefD := ⟨((Str.ofString "is_fraction"), none), (Str.ofString "is_fraction"), (Str.ofString "is_fraction"), defArgs s_is_fraction, defBody s_is_fraction, defScope s_is_fraction, [], []⟩
def dd_is_stand : He.DefD := ⟨((Str.ofString "is_stand"), none), (Str.ofString "is_stand"), (Str.ofString "is_stand"), defArgs s_is_stand, defBody s_is_stand, defScope s_is_stand, [], []⟩
def dd_has_name : He.DefD := ⟨((Str.ofString "has_name"), none), (Str.ofString "has_name"), (Str.ofString "has_name"), defArgs s_has_name, defBody s_has_name, defScope s_has_name, [], []⟩
def dd_text_of : He.DefD := ⟨((Str.ofString "text_of"), none), (Str.ofString "text_of"), (Str.ofString "text_of"), defArgs s_text_of, defBody s_text_of, defScope s_text_of, [], []⟩
def dd_share_in : He.DefD := ⟨((Str.ofString "share_in"), none), (Str.ofString "share_in"), (Str.ofString "share_in"), defArgs s_share_in, defBody s_share_in, defScope s_share_in, [], []⟩
def dd_u_law_pick : He.DefD := ⟨((Str.ofString "_law_pick"), none), (Str.ofString "_law_pick"), (Str.ofString "_law_pick"), defArgs s_u_law_pick, defBody s_u_law_pick, defScope s_u_law_pick, [], []⟩
def dd_u_law_sum : He.DefD := ⟨((Str.ofString "_law_sum"), none), (Str.ofString "_law_sum"), (Str.ofString "_law_sum"), defArgs s_u_law_sum, defBody s_u_law_sum, defScope s_u_law_sum, [], []⟩
def dd_plus : He.DefD := ⟨((Str.ofString "plus"), none), (Str.ofString "plus"), (Str.ofString "plus"), defArgs s_plus, defBody s_plus, defScope s_plus, [], []⟩
def dd_is_book : He.DefD := ⟨((Str.ofString "is_book"), none), (Str.ofString "is_book"), (Str.ofString "is_book"), defArgs s_is_book, defBody s_is_book, defScope s_is_book, [], []⟩
def dd_u_law_book : He.DefD := ⟨((Str.ofString "_law_book"), none), (Str.ofString "_law_book"), (Str.ofString "_law_book"), defArgs s_u_law_book, defBody s_u_law_book, defScope s_u_law_book, [], []⟩
def dd_u_law_shares : He.DefD := ⟨((Str.ofString "_law_shares"), none), (Str.ofString "_law_shares"), (Str.ofString "_law_shares"), defArgs s_u_law_shares, defBody s_u_law_shares, defScope s_u_law_shares, [], []⟩
def dd_u_law_gathered : He.DefD := ⟨((Str.ofString "_law_gathered"), none), (Str.ofString "_law_gathered"), (Str.ofString "_law_gathered"), defArgs s_u_law_gathered, defBody s_u_law_gathered, defScope s_u_law_gathered, [], []⟩
def dd_u_law_worths : He.DefD := ⟨((Str.ofString "_law_worths"), none), (Str.ofString "_law_worths"), (Str.ofString "_law_worths"), defArgs s_u_law_worths, defBody s_u_law_worths, defScope s_u_law_worths, [], []⟩
def dd_u_law_read : He.DefD := ⟨((Str.ofString "_law_read"), none), (Str.ofString "_law_read"), (Str.ofString "_law_read"), defArgs s_u_law_read, defBody s_u_law_read, defScope s_u_law_read, [], []⟩
def dd_summed : He.DefD := ⟨((Str.ofString "summed"), none), (Str.ofString "summed"), (Str.ofString "summed"), defArgs s_summed, defBody s_summed, defScope s_summed, [], []⟩
def dd_look_book : He.DefD := ⟨((Str.ofString "look_book"), none), (Str.ofString "look_book"), (Str.ofString "look_book"), defArgs s_look_book, defBody s_look_book, defScope s_look_book, [], []⟩
def dd_u_law_led : He.DefD := ⟨((Str.ofString "_law_led"), none), (Str.ofString "_law_led"), (Str.ofString "_law_led"), defArgs s_u_law_led, defBody s_u_law_led, defScope s_u_law_led, [], []⟩
def dd_are_shares_in : He.DefD := ⟨((Str.ofString "are_shares_in"), none), (Str.ofString "are_shares_in"), (Str.ofString "are_shares_in"), defArgs s_are_shares_in, defBody s_are_shares_in, defScope s_are_shares_in, [], []⟩
def dd_look_shares : He.DefD := ⟨((Str.ofString "look_shares"), none), (Str.ofString "look_shares"), (Str.ofString "look_shares"), defArgs s_look_shares, defBody s_look_shares, defScope s_look_shares, [], []⟩
def dd_read_shares : He.DefD := ⟨((Str.ofString "read_shares"), none), (Str.ofString "read_shares"), (Str.ofString "read_shares"), defArgs s_read_shares, defBody s_read_shares, defScope s_read_shares, [], []⟩
def dd_shares_text : He.DefD := ⟨((Str.ofString "shares_text"), none), (Str.ofString "shares_text"), (Str.ofString "shares_text"), defArgs s_shares_text, defBody s_shares_text, defScope s_shares_text, [], []⟩
def dd_u_law_do : He.DefD := ⟨((Str.ofString "_law_do"), none), (Str.ofString "_law_do"), (Str.ofString "_law_do"), defArgs s_u_law_do, defBody s_u_law_do, defScope s_u_law_do, [], []⟩
def dd_law : He.DefD := ⟨((Str.ofString "law"), none), (Str.ofString "law"), (Str.ofString "law"), defArgs s_law, defBody s_law, defScope s_law, [], []⟩
def fns : List He.DefD := [dd_is_whole, dd_greatest_in, dd_is_name, dd_fraction_text, dd_number_in, dd_u_law_cell, dd_u_law_spoilt, dd_u_law_word, dd_u_law_low, dd_u_law_names, dd_u_law_written, dd_share, dd_is_fraction, dd_is_stand, dd_has_name, dd_text_of, dd_share_in, dd_u_law_pick, dd_u_law_sum, dd_plus, dd_is_book, dd_u_law_book, dd_u_law_shares, dd_u_law_gathered, dd_u_law_worths, dd_u_law_read, dd_summed, dd_look_book, dd_u_law_led, dd_are_shares_in, dd_look_shares, dd_read_shares, dd_shares_text, dd_u_law_do, dd_law]
def fas0 : List He.Fa := [.glo (Str.ofString "is_whole"), .glo (Str.ofString "greatest_in"), .glo (Str.ofString "is_name"), .glo (Str.ofString "fraction_text"), .glo (Str.ofString "number_in"), .glo (Str.ofString "_law_cell"), .glo (Str.ofString "_law_spoilt"), .glo (Str.ofString "_law_word"), .glo (Str.ofString "_law_low"), .glo (Str.ofString "_law_names"), .glo (Str.ofString "_law_written"), .glo (Str.ofString "share"), .glo (Str.ofString "is_fraction"), .glo (Str.ofString "is_stand"), .glo (Str.ofString "has_name"), .glo (Str.ofString "text_of"), .glo (Str.ofString "share_in"), .glo (Str.ofString "_law_pick"), .glo (Str.ofString "_law_sum"), .glo (Str.ofString "plus"), .glo (Str.ofString "is_book"), .glo (Str.ofString "_law_book"), .glo (Str.ofString "_law_shares"), .glo (Str.ofString "_law_gathered"), .glo (Str.ofString "_law_worths"), .glo (Str.ofString "_law_read"), .glo (Str.ofString "summed"), .glo (Str.ofString "look_book"), .glo (Str.ofString "_law_led"), .glo (Str.ofString "are_shares_in"), .glo (Str.ofString "look_shares"), .glo (Str.ofString "read_shares"), .glo (Str.ofString "shares_text"), .glo (Str.ofString "_law_do"), .glo (Str.ofString "law"), .glo (Str.ofString "NoBook"), .exc (Str.ofString "NoBook"), .glo (Str.ofString "NoShares"), .exc (Str.ofString "NoShares"), .glo (Str.ofString "NoText"), .exc (Str.ofString "NoText"), .int (Str.ofString "FARTHEST") 999, .str (Str.ofString "FIGURES") (Str.ofString "0123456789"), .int (Str.ofString "LONGEST") 6, .glo (Str.ofString "NOUGHT"), .glo (Str.ofString "ONE"), .str (Str.ofString "SMALL") (Str.ofString "abcdefghijklmnopqrstuvwxyz")]
def fas : List He.Fa := fas0 ++ (btFa ++ erFa ecs exs)
def tups : List Xf := [.tup ((Str.ofString "NOUGHT"), [.int 0, .int 1]), .tup ((Str.ofString "ONE"), [.int 1, .int 1]), .errs ecs exs]
def lset : List Str := ([(Str.ofString "BlendError"), (Str.ofString "NoBook"), (Str.ofString "NoRow"), (Str.ofString "NoBoard"), (Str.ofString "NoStand"), (Str.ofString "NoShares"), (Str.ofString "NoLayer"), (Str.ofString "NoPlan"), (Str.ofString "NoNumber"), (Str.ofString "NoWay"), (Str.ofString "NoText"), (Str.ofString "NOUGHT"), (Str.ofString "ONE"), (Str.ofString "is_whole"), (Str.ofString "greatest_in"), (Str.ofString "share"), (Str.ofString "is_fraction"), (Str.ofString "plus"), (Str.ofString "summed"), (Str.ofString "LONGEST"), (Str.ofString "SMALL"), (Str.ofString "FARTHEST"), (Str.ofString "is_name"), (Str.ofString "is_stand"), (Str.ofString "is_book"), (Str.ofString "look_book"), (Str.ofString "has_name"), (Str.ofString "are_shares_in"), (Str.ofString "look_shares"), (Str.ofString "FIGURES")] : List Str) ++ ([(Str.ofString "fraction_text"), (Str.ofString "text_of"), (Str.ofString "shares_text"), (Str.ofString "number_in"), (Str.ofString "share_in"), (Str.ofString "read_shares"), (Str.ofString "_law_cell"), (Str.ofString "_law_pick"), (Str.ofString "_law_spoilt"), (Str.ofString "_law_word"), (Str.ofString "_law_low"), (Str.ofString "_law_sum"), (Str.ofString "_law_book"), (Str.ofString "_law_names"), (Str.ofString "_law_shares"), (Str.ofString "_law_gathered"), (Str.ofString "_law_led"), (Str.ofString "_law_worths"), (Str.ofString "_law_do"), (Str.ofString "_law_written"), (Str.ofString "_law_read")] : List Str)
abbrev Rw : PySem.W.OpenRow := PySem.W.OpenLaw.row PySem.Challenge.rw_blendstands_k60_whole_texts
abbrev hk : PySem.W.Hook := hookM 4 fas fns tups
def ob (s : PySem.W.SharedT) : Bool × He.AlD := obsM 4 fas fns tups (HandSHeadRun.getT s)
theorem ob_eq (s : PySem.W.SharedT) : ob s = hk.obs s.abs := obsM_eq (HandSHeadRun.getT_eq s)
theorem run (w : World) : HandSHeadRun.RunEq Rw (PySem.W.view Rw.prog [56]) hk ob 6000 lset w := by
  intro os
  kernel_rfl
theorem facts {P : Program} {w : World} {K : PySem.W.Frag} {h : Heap} {mg : Str → Option Value} {f : Addr} (X : K.In h) (G : h.Ns mainGlobals mg) (hfa : mg (Str.ofString "law") = some (.ref f)) (tu : tupsB tups K = true) (c : He.SaysD fas fns K) :
    ∃ fd : FuncData, (∀ (s : Shared) (v : Value), BindsTo s fd ⟨[v], []⟩ [("script", v)]) ∧ ∀ base : Heap, K.In base → base.Ns mainGlobals mg → FnOk P w K mg base (L2.CX P w) 9 f fd ["script"] (spF K mg 1 F_law) := by
  have zb := bts_of X G (fun f hf => facts_of c f (List.mem_append_right _ (List.mem_append_left _ hf)))
  have zx : ErrX K mg ecs exs := errx_of X G (fun f hf => facts_of c f (List.mem_append_right _ (List.mem_append_right _ hf))) tu (List.mem_of_getElem? (i := 2) rfl)
  obtain ⟨fd_is_whole, D_is_whole⟩ := c.def_ 0 (d := dd_is_whole) rfl
  obtain ⟨fd_greatest_in, D_greatest_in⟩ := c.def_ 1 (d := dd_greatest_in) rfl
  obtain ⟨fd_is_name, D_is_name⟩ := c.def_ 2 (d := dd_is_name) rfl
  obtain ⟨fd_fraction_text, D_fraction_text⟩ := c.def_ 3 (d := dd_fraction_text) rfl
  obtain ⟨fd_number_in, D_number_in⟩ := c.def_ 4 (d := dd_number_in) rfl
  obtain ⟨fd_u_law_cell, D_u_law_cell⟩ := c.def_ 5 (d := dd_u_law_cell) rfl
  obtain ⟨fd_u_law_spoilt, D_u_law_spoilt⟩ := c.def_ 6 (d := dd_u_law_spoilt) rfl
  obtain ⟨fd_u_law_word, D_u_law_word⟩ := c.def_ 7 (d := dd_u_law_word) rfl
  obtain ⟨fd_u_law_low, D_u_law_low⟩ := c.def_ 8 (d := dd_u_law_low) rfl
  obtain ⟨fd_u_law_names, D_u_law_names⟩ := c.def_ 9 (d := dd_u_law_names) rfl
  obtain ⟨fd_u_law_written, D_u_law_written⟩ := c.def_ 10 (d := dd_u_law_written) rfl
  obtain ⟨fd_share, D_share⟩ := c.def_ 11 (d := dd_share) rfl
  obtain ⟨fd_is_fraction, D_is_fraction⟩ := c.def_ 12 (d := dd_is_fraction) rfl
  obtain ⟨fd_is_stand, D_is_stand⟩ := c.def_ 13 (d := dd_is_stand) rfl
  obtain ⟨fd_has_name, D_has_name⟩ := c.def_ 14 (d := dd_has_name) rfl
  obtain ⟨fd_text_of, D_text_of⟩ := c.def_ 15 (d := dd_text_of) rfl
  obtain ⟨fd_share_in, D_share_in⟩ := c.def_ 16 (d := dd_share_in) rfl
  obtain ⟨fd_u_law_pick, D_u_law_pick⟩ := c.def_ 17 (d := dd_u_law_pick) rfl
  obtain ⟨fd_u_law_sum, D_u_law_sum⟩ := c.def_ 18 (d := dd_u_law_sum) rfl
  obtain ⟨fd_plus, D_plus⟩ := c.def_ 19 (d := dd_plus) rfl
  obtain ⟨fd_is_book, D_is_book⟩ := c.def_ 20 (d := dd_is_book) rfl
  obtain ⟨fd_u_law_book, D_u_law_book⟩ := c.def_ 21 (d := dd_u_law_book) rfl
  obtain ⟨fd_u_law_shares, D_u_law_shares⟩ := c.def_ 22 (d := dd_u_law_shares) rfl
  obtain ⟨fd_u_law_gathered, D_u_law_gathered⟩ := c.def_ 23 (d := dd_u_law_gathered) rfl
  obtain ⟨fd_u_law_worths, D_u_law_worths⟩ := c.def_ 24 (d := dd_u_law_worths) rfl
  obtain ⟨fd_u_law_read, D_u_law_read⟩ := c.def_ 25 (d := dd_u_law_read) rfl
  obtain ⟨fd_summed, D_summed⟩ := c.def_ 26 (d := dd_summed) rfl
  obtain ⟨fd_look_book, D_look_book⟩ := c.def_ 27 (d := dd_look_book) rfl
  obtain ⟨fd_u_law_led, D_u_law_led⟩ := c.def_ 28 (d := dd_u_law_led) rfl
  obtain ⟨fd_are_shares_in, D_are_shares_in⟩ := c.def_ 29 (d := dd_are_shares_in) rfl
  obtain ⟨fd_look_shares, D_look_shares⟩ := c.def_ 30 (d := dd_look_shares) rfl
  obtain ⟨fd_read_shares, D_read_shares⟩ := c.def_ 31 (d := dd_read_shares) rfl
  obtain ⟨fd_shares_text, D_shares_text⟩ := c.def_ 32 (d := dd_shares_text) rfl
  obtain ⟨fd_u_law_do, D_u_law_do⟩ := c.def_ 33 (d := dd_u_law_do) rfl
  obtain ⟨fd_law, D_law⟩ := c.def_ 34 (d := dd_law) rfl
  have e_NoBook : ErrC K mg (Str.ofString "NoBook") := err_of X G (c.fact 35 (f := .glo (Str.ofString "NoBook")) rfl) (c.fact 36 (f := .exc (Str.ofString "NoBook")) rfl)
  have e_NoShares : ErrC K mg (Str.ofString "NoShares") := err_of X G (c.fact 37 (f := .glo (Str.ofString "NoShares")) rfl) (c.fact 38 (f := .exc (Str.ofString "NoShares")) rfl)
  have e_NoText : ErrC K mg (Str.ofString "NoText") := err_of X G (c.fact 39 (f := .glo (Str.ofString "NoText")) rfl) (c.fact 40 (f := .exc (Str.ofString "NoText")) rfl)
  have c_FARTHEST : Kon K mg (Str.ofString "FARTHEST") d_FARTHEST := kon_int X G (c.fact 41 rfl)
  have c_FIGURES : Kon K mg (Str.ofString "FIGURES") d_FIGURES := kon_str X G (c.fact 42 rfl)
  have c_LONGEST : Kon K mg (Str.ofString "LONGEST") d_LONGEST := kon_int X G (c.fact 43 rfl)
  have c_NOUGHT : Kon K mg (Str.ofString "NOUGHT") d_NOUGHT := kon_tup X G (c.fact 44 (f := .glo (Str.ofString "NOUGHT")) rfl) tu (List.mem_of_getElem? (i := 0) rfl) rfl
  have c_ONE : Kon K mg (Str.ofString "ONE") d_ONE := kon_tup X G (c.fact 45 (f := .glo (Str.ofString "ONE")) rfl) tu (List.mem_of_getElem? (i := 1) rfl) rfl
  have c_SMALL : Kon K mg (Str.ofString "SMALL") d_SMALL := kon_str X G (c.fact 46 rfl)
  have el := hfa.symm.trans (He.glo_ok X G (c.fact 34 (f := .glo (Str.ofString "law")) rfl))
  cases el
  have bl := FunD.bindsA (ps := ["script"]) D_law fun _ _ _ _ _ _ us hl => match us, hl with | [_], _ => rfl
  refine ⟨fd_law, fun s v => bl s [v] rfl, fun base _ _ => ?_⟩
  have f_is_whole : Fn P w K mg base 1 (Str.ofString "is_whole") 3 F_is_whole := ok_is_whole D_is_whole (He.glo_ok X G (c.fact 0 (f := .glo (Str.ofString "is_whole")) rfl)) zb
  have f_greatest_in : Fn P w K mg base 1 (Str.ofString "greatest_in") 2 F_greatest_in := ok_greatest_in D_greatest_in (He.glo_ok X G (c.fact 1 (f := .glo (Str.ofString "greatest_in")) rfl)) zb
  have f_is_name : Fn P w K mg base 1 (Str.ofString "is_name") 1 F_is_name := ok_is_name D_is_name (He.glo_ok X G (c.fact 2 (f := .glo (Str.ofString "is_name")) rfl)) zb c_LONGEST c_SMALL
  have f_fraction_text : Fn P w K mg base 1 (Str.ofString "fraction_text") 1 F_fraction_text := ok_fraction_text D_fraction_text (He.glo_ok X G (c.fact 3 (f := .glo (Str.ofString "fraction_text")) rfl)) zb
  have f_number_in : Fn P w K mg base 1 (Str.ofString "number_in") 1 F_number_in := ok_number_in D_number_in (He.glo_ok X G (c.fact 4 (f := .glo (Str.ofString "number_in")) rfl)) zb c_FIGURES e_NoText
  have f_u_law_cell : Fn P w K mg base 1 (Str.ofString "_law_cell") 2 F_u_law_cell := ok_u_law_cell D_u_law_cell (He.glo_ok X G (c.fact 5 (f := .glo (Str.ofString "_law_cell")) rfl)) zb
  have f_u_law_spoilt : Fn P w K mg base 1 (Str.ofString "_law_spoilt") 3 F_u_law_spoilt := ok_u_law_spoilt D_u_law_spoilt (He.glo_ok X G (c.fact 6 (f := .glo (Str.ofString "_law_spoilt")) rfl)) zb
  have f_u_law_word : Fn P w K mg base 1 (Str.ofString "_law_word") 1 F_u_law_word := ok_u_law_word D_u_law_word (He.glo_ok X G (c.fact 7 (f := .glo (Str.ofString "_law_word")) rfl)) zb zx
  have f_u_law_low : Fn P w K mg base 1 (Str.ofString "_law_low") 2 F_u_law_low := ok_u_law_low D_u_law_low (He.glo_ok X G (c.fact 8 (f := .glo (Str.ofString "_law_low")) rfl)) zb
  have f_u_law_names : Fn P w K mg base 1 (Str.ofString "_law_names") 1 F_u_law_names := ok_u_law_names D_u_law_names (He.glo_ok X G (c.fact 9 (f := .glo (Str.ofString "_law_names")) rfl)) zb
  have f_u_law_written : Fn P w K mg base 1 (Str.ofString "_law_written") 1 F_u_law_written := ok_u_law_written D_u_law_written (He.glo_ok X G (c.fact 10 (f := .glo (Str.ofString "_law_written")) rfl)) zb
  have f_share : Fn P w K mg base 2 (Str.ofString "share") 2 F_share := ok_share D_share (He.glo_ok X G (c.fact 11 (f := .glo (Str.ofString "share")) rfl)) zb f_greatest_in
  have f_is_fraction : Fn P w K mg base 2 (Str.ofString "is_fraction") 1 F_is_fraction := ok_is_fraction D_is_fraction (He.glo_ok X G (c.fact 12 (f := .glo (Str.ofString "is_fraction")) rfl)) zb f_greatest_in
  have f_is_stand : Fn P w K mg base 2 (Str.ofString "is_stand") 1 F_is_stand := ok_is_stand D_is_stand (He.glo_ok X G (c.fact 13 (f := .glo (Str.ofString "is_stand")) rfl)) zb c_FARTHEST f_is_whole
  have f_has_name : Fn P w K mg base 2 (Str.ofString "has_name") 2 F_has_name := ok_has_name D_has_name (He.glo_ok X G (c.fact 14 (f := .glo (Str.ofString "has_name")) rfl)) zb f_is_name
  have f_text_of : Fn P w K mg base 2 (Str.ofString "text_of") 1 F_text_of := ok_text_of D_text_of (He.glo_ok X G (c.fact 15 (f := .glo (Str.ofString "text_of")) rfl)) zb f_fraction_text
  have f_share_in : Fn P w K mg base 2 (Str.ofString "share_in") 1 F_share_in := ok_share_in D_share_in (He.glo_ok X G (c.fact 16 (f := .glo (Str.ofString "share_in")) rfl)) zb e_NoText f_number_in
  have f_u_law_pick : Fn P w K mg base 2 (Str.ofString "_law_pick") 3 F_u_law_pick := ok_u_law_pick D_u_law_pick (He.glo_ok X G (c.fact 17 (f := .glo (Str.ofString "_law_pick")) rfl)) zb f_u_law_cell
  have f_u_law_sum : Fn P w K mg base 2 (Str.ofString "_law_sum") 1 F_u_law_sum := ok_u_law_sum D_u_law_sum (He.glo_ok X G (c.fact 18 (f := .glo (Str.ofString "_law_sum")) rfl)) zb f_u_law_low
  have f_plus : Fn P w K mg base 3 (Str.ofString "plus") 2 F_plus := ok_plus D_plus (He.glo_ok X G (c.fact 19 (f := .glo (Str.ofString "plus")) rfl)) zb f_share
  have f_is_book : Fn P w K mg base 3 (Str.ofString "is_book") 1 F_is_book := ok_is_book D_is_book (He.glo_ok X G (c.fact 20 (f := .glo (Str.ofString "is_book")) rfl)) zb f_is_name f_is_stand
  have f_u_law_book : Fn P w K mg base 3 (Str.ofString "_law_book") 2 F_u_law_book := ok_u_law_book D_u_law_book (He.glo_ok X G (c.fact 21 (f := .glo (Str.ofString "_law_book")) rfl)) zb f_u_law_pick
  have f_u_law_shares : Fn P w K mg base 3 (Str.ofString "_law_shares") 3 F_u_law_shares := ok_u_law_shares D_u_law_shares (He.glo_ok X G (c.fact 22 (f := .glo (Str.ofString "_law_shares")) rfl)) zb f_u_law_low f_u_law_names f_u_law_pick
  have f_u_law_gathered : Fn P w K mg base 3 (Str.ofString "_law_gathered") 1 F_u_law_gathered := ok_u_law_gathered D_u_law_gathered (He.glo_ok X G (c.fact 23 (f := .glo (Str.ofString "_law_gathered")) rfl)) zb f_u_law_sum
  have f_u_law_worths : Fn P w K mg base 3 (Str.ofString "_law_worths") 2 F_u_law_worths := ok_u_law_worths D_u_law_worths (He.glo_ok X G (c.fact 24 (f := .glo (Str.ofString "_law_worths")) rfl)) zb f_u_law_sum
  have f_u_law_read : Fn P w K mg base 3 (Str.ofString "_law_read") 2 F_u_law_read := ok_u_law_read D_u_law_read (He.glo_ok X G (c.fact 25 (f := .glo (Str.ofString "_law_read")) rfl)) zb f_u_law_low f_u_law_names f_u_law_sum
  have f_summed : Fn P w K mg base 4 (Str.ofString "summed") 1 F_summed := ok_summed D_summed (He.glo_ok X G (c.fact 26 (f := .glo (Str.ofString "summed")) rfl)) zb c_NOUGHT f_plus
  have f_look_book : Fn P w K mg base 4 (Str.ofString "look_book") 1 F_look_book := ok_look_book D_look_book (He.glo_ok X G (c.fact 27 (f := .glo (Str.ofString "look_book")) rfl)) zb e_NoBook f_is_book
  have f_u_law_led : Fn P w K mg base 4 (Str.ofString "_law_led") 3 F_u_law_led := ok_u_law_led D_u_law_led (He.glo_ok X G (c.fact 28 (f := .glo (Str.ofString "_law_led")) rfl)) zb f_u_law_gathered f_u_law_low
  have f_are_shares_in : Fn P w K mg base 5 (Str.ofString "are_shares_in") 2 F_are_shares_in := ok_are_shares_in D_are_shares_in (He.glo_ok X G (c.fact 29 (f := .glo (Str.ofString "are_shares_in")) rfl)) zb c_ONE f_has_name f_is_fraction f_summed
  have f_look_shares : Fn P w K mg base 6 (Str.ofString "look_shares") 2 F_look_shares := ok_look_shares D_look_shares (He.glo_ok X G (c.fact 30 (f := .glo (Str.ofString "look_shares")) rfl)) zb e_NoShares f_are_shares_in
  have f_read_shares : Fn P w K mg base 6 (Str.ofString "read_shares") 2 F_read_shares := ok_read_shares D_read_shares (He.glo_ok X G (c.fact 31 (f := .glo (Str.ofString "read_shares")) rfl)) zb e_NoText f_are_shares_in f_look_book f_share_in f_text_of
  have f_shares_text : Fn P w K mg base 7 (Str.ofString "shares_text") 2 F_shares_text := ok_shares_text D_shares_text (He.glo_ok X G (c.fact 32 (f := .glo (Str.ofString "shares_text")) rfl)) zb f_look_book f_look_shares f_text_of
  have f_u_law_do : Fn P w K mg base 8 (Str.ofString "_law_do") 3 F_u_law_do := ok_u_law_do D_u_law_do (He.glo_ok X G (c.fact 33 (f := .glo (Str.ofString "_law_do")) rfl)) zb zx f_u_law_word f_read_shares f_shares_text
  exact okl_law D_law zb f_u_law_book f_u_law_do f_u_law_led f_u_law_pick f_u_law_read f_u_law_shares f_u_law_spoilt f_u_law_written
end PL.W60
end
section
namespace PL
open PySem PySem.Spec PyProof.Rows L2 TL
def Ac (x : Str) : Prop := ∀ c ∈ tl x, c < 128
theorem Ac.ok {x : Str} (h : Ac x) : PyData.strOk x = true := by
  unfold PyData.strOk
  rw [← Array.all_toList, List.all_eq_true]
  intro c hc
  have := h c hc
  exact decide_eq_true (by omega)
theorem Ac.app {x y : Str} (a : Ac x) (b : Ac y) : Ac (x ++ y) := fun c hc => by
  rw [tl_append] at hc
  rcases List.mem_append.mp hc with h | h
  · exact a c h
  · exact b c h
theorem ac_dec {x : Str} (h : (tl x).all (fun c => decide (c < 128)) = true) : Ac x := fun c hc => of_decide_eq_true (List.all_eq_true.mp h c hc)
theorem len_app (x y : Str) : (x ++ y).length = x.length + y.length := Str.length_append x y
def sp : Str := Str.ofString " "
def sl : Str := Str.ofString "/"
def pl : Str := Str.ofString " + "
theorem tl_sp : tl sp = [32] := by decide +kernel
theorem tl_sl : tl sl = [47] := by decide +kernel
theorem tl_pl : tl pl = [32, 43, 32] := by decide +kernel
theorem spl_one {s : Nat} {a : List Nat} (h : s ∉ a) : spl [s] 0 [] a = [a] := by rw [spl_last1 h]; rfl
theorem spl_two {s : Nat} {a b : List Nat} (h : s ∉ a) : spl [s] 0 [] (a ++ (s :: b)) = a :: spl [s] 0 [] b := by
  have e := spl_part1 (S := []) (rest := b) (acc := []) h
  simpa using e
theorem split_tl (x y : Str) (hy : tl y ≠ []) (hk : y.cps.all (· < 256) = true) : Txt.split x y = (spl (tl y) 0 [] (tl x)).map fun l => ⟨l.toArray⟩ := by
  have e := split_spl x y hy (kind_ok hk)
  rw [← e, List.map_map]
  have : ((fun l : List Nat => (⟨l.toArray⟩ : Str)) ∘ tl) = id := by funext z; exact mk_tl z
  rw [this, List.map_id]
theorem pre_mid {p q : List Nat} (h : 43 ∉ p) : ∀ i, i < p.length → pre [32, 43, 32] ((p ++ (32 :: q)).drop i) = false := fun i hi => by
  have hlt : i < (p ++ (32 :: q)).length := by rw [List.length_append]; omega
  have e : (p ++ (32 :: q)).drop i = (p ++ (32 :: q))[i] :: (p ++ (32 :: q)).drop (i + 1) := List.drop_eq_getElem_cons hlt
  rw [e]
  have h2 : ∃ c r, (p ++ (32 :: q)).drop (i + 1) = c :: r ∧ c ≠ 43 := by
    by_cases l : i + 1 < p.length
    · have hlt2 : i + 1 < (p ++ (32 :: q)).length := by rw [List.length_append]; omega
      refine ⟨_, _, List.drop_eq_getElem_cons hlt2, fun z => h ?_⟩
      have e1 : (p ++ (32 :: q))[i + 1] = p[i + 1] := List.getElem_append_left l
      rw [← z, e1]
      exact List.getElem_mem l
    · have e1 : i + 1 = p.length := by omega
      rw [e1, List.drop_left]
      exact ⟨_, _, rfl, by decide⟩
  obtain ⟨c, r, e2, hc⟩ := h2
  rw [e2]
  unfold pre
  cases r with
  | nil => simp
  | cons d r => simp [hc]
theorem pre_midL {p : List Nat} (h : 43 ∉ p) : ∀ i, i < p.length → pre [32, 43, 32] (p.drop i) = false := fun i hi => by
  have e := List.drop_eq_getElem_cons hi
  rw [e]
  cases e2 : p.drop (i + 1) with
  | nil => simp [pre]
  | cons c r =>
    have hc : c ≠ 43 := fun z => h (by
      have : c ∈ p.drop (i + 1) := by rw [e2]; exact List.mem_cons_self
      rw [← z]
      exact List.mem_of_mem_drop this)
    unfold pre
    cases r with
    | nil => simp
    | cons d r => simp [hc]
theorem spl_plus : ∀ {parts : List (List Nat)}, parts ≠ [] → (∀ p ∈ parts, 43 ∉ p) → spl [32, 43, 32] 0 [] (joinL [32, 43, 32] parts) = parts
  | [], h, _ => absurd rfl h
  | [p], _, hp => by
    show spl [32, 43, 32] 0 [] p = [p]
    rw [spl_last (pre_midL (hp p (List.mem_singleton.mpr rfl))), List.nil_append]
  | p :: q :: r, _, hp => by
    show spl [32, 43, 32] 0 [] (p ++ ([32, 43, 32] ++ joinL [32, 43, 32] (q :: r))) = p :: q :: r
    rw [spl_part (by simp) (pre_mid (q := [43, 32] ++ joinL [32, 43, 32] (q :: r)) (hp p (List.mem_cons_self ..))), List.nil_append, spl_plus (by simp) fun z hz => hp z (List.mem_cons_of_mem _ hz)]
theorem split_plus {parts : List Str} (hne : parts ≠ []) (hp : ∀ p ∈ parts, 43 ∉ tl p) : Txt.split (Txt.join pl parts) pl = parts := by
  refine map_tl_inj ?_
  rw [split_spl _ pl (by rw [tl_pl]; simp) (kind_ok (by decide +kernel)), join_eq, tl_join, tl_pl]
  refine spl_plus (fun e => hne (List.map_eq_nil_iff.mp e)) fun p h => ?_
  obtain ⟨z, hz, rfl⟩ := List.mem_map.mp h
  exact hp z hz
theorem split_sl1 {a : Str} (h : 47 ∉ tl a) : Txt.split a sl = [a] := by
  rw [split_tl a sl (by rw [tl_sl]; simp) (by decide +kernel), tl_sl, spl_one h]
  show [(⟨(tl a).toArray⟩ : Str)] = _
  rw [mk_tl]
theorem split_sp2 {a b : Str} (h : 32 ∉ tl a) (h2 : 32 ∉ tl b) : Txt.split (a ++ sp ++ b) sp = [a, b] := by
  rw [split_tl _ sp (by rw [tl_sp]; simp) (by decide +kernel), tl_append, tl_append, tl_sp, List.append_assoc, List.singleton_append, spl_two h, spl_one h2]
  show [(⟨(tl a).toArray⟩ : Str), ⟨(tl b).toArray⟩] = _
  rw [mk_tl, mk_tl]
theorem split_sl2 {a b : Str} (h : 47 ∉ tl a) (h2 : 47 ∉ tl b) : Txt.split (a ++ sl ++ b) sl = [a, b] := by
  rw [split_tl _ sl (by rw [tl_sl]; simp) (by decide +kernel), tl_append, tl_append, tl_sl, List.append_assoc, List.singleton_append, spl_two h, spl_one h2]
  show [(⟨(tl a).toArray⟩ : Str), ⟨(tl b).toArray⟩] = _
  rw [mk_tl, mk_tl]
theorem split_ac {x y p : Str} (h : Ac x) (hp : p ∈ Txt.split x y) : Ac p := fun c hc => by
  have e := StrLaws.join_split x y
  have key : ∀ (ps : List Str), p ∈ ps → ∀ c ∈ tl p, c ∈ tl (Str.join y ps) := by
    intro ps
    induction ps with
    | nil => intro h; cases h
    | cons q ps ih =>
      intro hm c hc
      cases ps with
      | nil =>
        rw [List.mem_singleton.mp hm] at hc
        exact hc
      | cons r ps =>
        show c ∈ tl (q ++ y ++ Str.join y (r :: ps))
        rw [tl_append, tl_append]
        rcases List.mem_cons.mp hm with rfl | hm
        · exact List.mem_append_left _ (List.mem_append_left _ hc)
        · exact List.mem_append_right _ (ih hm c hc)
  have := key _ hp c hc
  rw [e] at this
  exact h c this
theorem split_len {x y p : Str} (hp : p ∈ Txt.split x y) : p.length ≤ x.length := part_short hp
theorem app_inj_l {a b c : Str} (h : a ++ b = a ++ c) : b = c := by
  have e := congrArg tl h
  rw [tl_append, tl_append] at e
  exact ext_tl (List.append_cancel_left e)
def isNum (x : Str) : Bool := !(tl x).isEmpty && (tl x).all fun c => decide (48 ≤ c) && decide (c ≤ 57)
def numV (x : Str) : Nat := NumText.digitsVal (tl x)
def istr (i : Int) : Str := toString i
theorem isNum_iff {x : Str} : isNum x = true ↔ tl x ≠ [] ∧ NumText.AllDigits (tl x) := by
  unfold isNum NumText.AllDigits
  rw [Bool.and_eq_true, List.all_eq_true, Bool.not_eq_true', List.isEmpty_eq_false_iff]
  simp only [Bool.and_eq_true, decide_eq_true_eq]
theorem int_isNum {x : Str} (h : isNum x = true) (hl : x.length ≤ 4300) : PySem.intText? x = some (numV x : Int) := by
  obtain ⟨h1, h2⟩ := isNum_iff.mp h
  exact PySem.intText_digits h2 h1 hl
theorem tl_istr (n : Nat) : tl (istr (n : Int)) = numL n := tl_num n
theorem isNum_istr (n : Nat) : isNum (istr (n : Int)) = true := isNum_iff.mpr ⟨by rw [tl_istr]; exact numL_ne n, by rw [tl_istr]; exact numL_digits n⟩
theorem numV_istr (n : Nat) : numV (istr (n : Int)) = n := by unfold numV; rw [tl_istr]; exact numL_val n
theorem istr_len {n k : Nat} (hk : 0 < k) (h : n < 10 ^ k) : (istr (n : Int)).length ≤ k := by rw [len_tl, tl_istr]; exact numL_len hk h
theorem numL_head {n : Nat} (h : 0 < n) : ∃ c r, numL n = c :: r ∧ c ≠ 48 := by
  induction n using Nat.strongRecOn with
  | _ n ih =>
    by_cases h10 : n < 10
    · exact ⟨_, _, numL_lt h10, by omega⟩
    · obtain ⟨c, r, e, hc⟩ := ih (n / 10) (by omega) (by omega)
      exact ⟨c, r ++ [48 + n % 10], by rw [numL_step (by omega), e]; rfl, hc⟩
theorem digitsVal_snoc (l : List Nat) (c : Nat) : NumText.digitsVal (l ++ [c]) = NumText.digitsVal l * 10 + (c - 48) := by
  unfold NumText.digitsVal
  rw [List.foldl_append]
  rfl
theorem numL_back : ∀ (n : Nat) (l : List Nat), l.length = n → l ≠ [] → NumText.AllDigits l → l.head? ≠ some 48 → numL (NumText.digitsVal l) = l ∧ 0 < NumText.digitsVal l
  | 0, l, h0, h, _, _ => absurd (List.length_eq_zero_iff.mp h0) h
  | n + 1, l, hn, h, ha, hh => by
    have e := List.dropLast_concat_getLast h
    generalize hq : l.dropLast = q at e
    generalize l.getLast h = c at e
    have hc : 48 ≤ c ∧ c ≤ 57 := ha c (by rw [← e]; exact List.mem_append_right _ (List.mem_singleton.mpr rfl))
    have lq : q.length = n := by
      have z := congrArg List.length e
      rw [List.length_append, List.length_singleton] at z
      omega
    rw [← e, digitsVal_snoc]
    by_cases q0 : q = []
    · subst q0
      rw [List.nil_append] at e
      rw [← e] at hh
      have c0 : c ≠ 48 := fun z => hh (by rw [z]; rfl)
      have v0 : NumText.digitsVal ([] : List Nat) = 0 := rfl
      rw [v0, numL_lt (by omega)]
      refine ⟨?_, by omega⟩
      rw [List.nil_append]
      congr 1
      omega
    · have hq2 : q.head? ≠ some 48 := by
        cases q with
        | nil => exact absurd rfl q0
        | cons a r =>
          rw [← e] at hh
          exact hh
      obtain ⟨i1, i2⟩ := numL_back n q lq q0 (fun x hx => ha x (by rw [← e]; exact List.mem_append_left _ hx)) hq2
      refine ⟨?_, by omega⟩
      rw [numL_step (by omega)]
      have e1 : (NumText.digitsVal q * 10 + (c - 48)) / 10 = NumText.digitsVal q := by omega
      have e2 : (NumText.digitsVal q * 10 + (c - 48)) % 10 = c - 48 := by omega
      rw [e1, e2, i1]
      congr 2
      omega
theorem istr_back {x : Str} (h : isNum x = true) (h0 : (tl x).head? ≠ some 48) : istr (numV x : Int) = x ∧ 0 < numV x := by
  obtain ⟨h1, h2⟩ := isNum_iff.mp h
  obtain ⟨e1, e2⟩ := numL_back _ (tl x) rfl h1 h2 h0
  exact ⟨ext_tl (by rw [tl_istr]; exact e1), e2⟩
theorem digitsVal_lt : ∀ (n : Nat) (l : List Nat), l.length = n → NumText.AllDigits l → NumText.digitsVal l < 10 ^ n
  | 0, l, h0, _ => by rw [List.length_eq_zero_iff.mp h0]; decide
  | n + 1, l, hn, ha => by
    have h : l ≠ [] := fun z => by rw [z] at hn; cases hn
    have e := List.dropLast_concat_getLast h
    generalize l.dropLast = q at e
    generalize l.getLast h = c at e
    have hc : 48 ≤ c ∧ c ≤ 57 := ha c (by rw [← e]; exact List.mem_append_right _ (List.mem_singleton.mpr rfl))
    have lq : q.length = n := by
      have z := congrArg List.length e
      rw [List.length_append, List.length_singleton] at z
      omega
    have ih := digitsVal_lt n q lq (fun x hx => ha x (by rw [← e]; exact List.mem_append_left _ hx))
    rw [← e, digitsVal_snoc, Nat.pow_succ]
    omega
theorem numV_lt {x : Str} (h : isNum x = true) : numV x < 10 ^ x.length := by
  rw [len_tl]
  exact digitsVal_lt _ (tl x) rfl (isNum_iff.mp h).2
theorem isNum_free {x : Str} (h : isNum x = true) {s : Nat} (hs : s < 48 ∨ 57 < s) : s ∉ tl x := fun hm => by
  have := (isNum_iff.mp h).2 s hm
  omega
theorem isNum_ac {x : Str} (h : isNum x = true) : Ac x := fun c hc => by
  have := (isNum_iff.mp h).2 c hc
  omega
end PL
end
section
namespace PL
open PySem PySem.Spec PyProof.Rows L2 PL.G
section
variable (r : Rho) (f g fa fb fc : Rho → R D) (ga gb : Rho → R Bool) (fs : Rho → R (List D)) (i j : Nat) (s1 s2 : Rho → R Fl) (d : D)
@[simp] theorem x_fVar : fVar i r = (match r[i]? with
  | some (.im d) => .ok d
  | some (.ol _) => .ok (.own i)
  | some (.od _) => .ok (.own i)
  | _ => .stuck) := rfl
@[simp] theorem x_fBin (h : Rho → D → D → R D) : fBin h fa fb r = (fa r).bnd fun x => (fb r).bnd fun y => h r x y := rfl
@[simp] theorem x_fTest : fTest f r = (f r).bnd boolOf := rfl
@[simp] theorem x_boolOf (b : Bool) : boolOf (.bl b) = .ok b := rfl
@[simp] theorem x_fChain (h h' : Rho → D → D → R D) : fChain h h' fa fb fc r = (fa r).bnd fun x => (fb r).bnd fun y => (h r x y).bnd fun z => (boolOf z).bnd fun k => if k then (fc r).bnd fun w => h' r y w else .ok (.bl false) := rfl
@[simp] theorem x_fAnd : fAnd ga gb r = (ga r).bnd fun x => if x then gb r else .ok false := rfl
@[simp] theorem x_fOr : fOr ga gb r = (ga r).bnd fun x => if x then .ok true else gb r := rfl
@[simp] theorem x_fNot : fNot ga r = (ga r).bnd fun x => .ok (!x) := rfl
@[simp] theorem x_fAndV : fAndV fa fb r = (fa r).bnd fun x => (boolOf x).bnd fun k => if k then fb r else .ok (.bl false) := rfl
@[simp] theorem x_fOrV : fOrV fa fb r = (fa r).bnd fun x => (boolOf x).bnd fun k => if k then .ok (.bl true) else fb r := rfl
@[simp] theorem x_fNotV : fNotV fa r = (fa r).bnd fun x => (boolOf x).bnd fun k => .ok (.bl (!k)) := rfl
@[simp] theorem x_fIf : fIf ga fa fb r = (ga r).bnd fun k => if k then fa r else fb r := rfl
@[simp] theorem x_fNil : fNil r = .ok [] := rfl
@[simp] theorem x_fCons : fCons f fs r = (f r).bnd fun d => (imD d).bnd fun d => (fs r).bnd fun ds => .ok (d :: ds) := rfl
@[simp] theorem x_fConsB : fConsB f fs r = (f r).bnd fun d => (fs r).bnd fun ds => .ok (d :: ds) := rfl
@[simp] theorem x_imD_non : imD .non = .ok .non := rfl
@[simp] theorem x_imD_bl (b) : imD (.bl b) = .ok (.bl b) := rfl
@[simp] theorem x_imD_int (b) : imD (.int b) = .ok (.int b) := rfl
@[simp] theorem x_imD_str (b) : imD (.str b) = .ok (.str b) := rfl
@[simp] theorem x_imD_tup (b) : imD (.tup b) = .ok (.tup b) := rfl
@[simp] theorem x_imD_lst (b) : imD (.lst b) = .ok (.lst b) := rfl
@[simp] theorem x_imD_dic (b) : imD (.dic b) = .ok (.dic b) := rfl
@[simp] theorem x_imD_scr (b) : imD (.scr b) = .ok (.scr b) := rfl
@[simp] theorem x_fTup : fTup fs r = (fs r).bnd fun ds => if szD ds then .ok (.tup ds) else .stuck := rfl
@[simp] theorem x_fLst : fLst fs r = (fs r).bnd fun ds => if szD ds then .ok ds else .stuck := rfl
@[simp] theorem x_fL : fL fs r = (fs r).bnd fun ds => .ok (.lst ds) := rfl
@[simp] theorem x_fCall (n : Nat) (F : List D → R D) : fCall n F fs r = (fs r).bnd fun ds => if ds.length == n then F ds else .stuck := rfl
@[simp] theorem x_fCallB {α : Type} (h : Rho → List D → R α) : fCallB h fs r = (fs r).bnd (h r) := rfl
@[simp] theorem x_fNeg : fNeg f r = (f r).bnd negD := rfl
@[simp] theorem x_negD (i : Int) : negD (.int i) = .ok (.int (-i)) := rfl
@[simp] theorem x_fIsi (ts : List String) : fIsi ts f r = (f r).bnd fun d => if ownL r d then .ok (.bl (ts.any fun t => isTy d t)) else .stuck := rfl
@[simp] theorem x_fSl (fl fh : Rho → R (Option Int)) : fSl f fl fh r = (f r).bnd fun x => (fl r).bnd fun lo => (fh r).bnd fun hi => slD r x lo hi := rfl
@[simp] theorem x_intOf (i : Int) : intOf (.int i) = .ok (some i) := rfl
@[simp] theorem x_fIt (ow : Bool) : fIt ow f r = (f r).bnd (itemsD ow r) := rfl
@[simp] theorem x_fRg (h : List D → R (List D)) : fRg h fs r = (fs r).bnd h := rfl
@[simp] theorem x_fZip (ow : Bool) : fZip ow fs r = (fs r).bnd (zipD ow r) := rfl
@[simp] theorem x_fEnum (ow : Bool) : fEnum ow fs r = (fs r).bnd (enumD ow r) := rfl
@[simp] theorem x_fLc (vs : List Nat) (t : Tg) (fi : Rho → R (List D)) : fLc vs t fi ga f r = (fi r).bnd fun ds => if decide (ds.length < sizeLine) then lcGo t ga f (wipeR r vs) ds else .stuck := rfl
@[simp] theorem x_fNx : fNx r = .ok (.nx r) := rfl
@[simp] theorem x_fSeq : fSeq s1 s2 r = (s1 r).bnd fun x => match x with
  | .nx r' => s2 r'
  | .bk r' => .ok (.bk r')
  | .ct r' => .ok (.ct r')
  | .rt d => .ok (.rt d)
  | .rm d os => .ok (.rm d os) := rfl
@[simp] theorem x_fIfS : fIfS ga s1 s2 r = (ga r).bnd fun b => if b then s1 r else s2 r := rfl
@[simp] theorem x_fRet : fRet f r = (f r).bnd fun d => (outD r d).bnd fun d => .ok (.rt d) := rfl
@[simp] theorem x_fExpr : fExpr f r = (f r).bnd fun _ => .ok (.nx r) := rfl
@[simp] theorem x_outD_non : outD r .non = .ok .non := rfl
@[simp] theorem x_outD_bl (b) : outD r (.bl b) = .ok (.bl b) := rfl
@[simp] theorem x_outD_int (b) : outD r (.int b) = .ok (.int b) := rfl
@[simp] theorem x_outD_str (b) : outD r (.str b) = .ok (.str b) := rfl
@[simp] theorem x_outD_tup (b) : outD r (.tup b) = .ok (.tup b) := rfl
@[simp] theorem x_outD_lst (b) : outD r (.lst b) = .ok (.lst b) := rfl
@[simp] theorem x_outD_dic (b) : outD r (.dic b) = .ok (.dic b) := rfl
@[simp] theorem x_outD_own : outD r (.own i) = (match r[i]? with
  | some (.ol ds) => .ok (.lst ds)
  | _ => .stuck) := rfl
@[simp] theorem x_fAsg (t : Tg) : fAsg t f r = (f r).bnd fun d => (imD d).bnd fun d => (setT t d r).bnd fun r' => .ok (.nx r') := rfl
@[simp] theorem x_fAsgN : fAsgN i fs r = (fs r).bnd fun ds => if decide (i < r.length) then .ok (.nx (r.set i (.ol ds))) else .stuck := rfl
@[simp] theorem x_fPar : fPar i j fs r = (fs r).bnd fun ds => (match ds with
  | [x, y] => if decide (i < r.length ∧ j < r.length) then .ok (.nx ((r.set i (.im x)).set j (.im y))) else .stuck
  | _ => .stuck) := rfl
@[simp] theorem x_setT_nm : setT (.nm i) d r = if decide (i < r.length) then .ok (r.set i (.im d)) else .stuck := rfl
@[simp] theorem x_setT_tp (ts : List Tg) (ds : List D) : setT (.tp ts) (.tup ds) r = setTs ts ds r := rfl
@[simp] theorem x_setTs_nil : setTs [] [] r = .ok r := rfl
@[simp] theorem x_setTs_cons (t : Tg) (ts : List Tg) (ds : List D) : setTs (t :: ts) (d :: ds) r = (setT t d r).bnd fun r2 => setTs ts ds r2 := rfl
@[simp] theorem x_fApp : fApp i f r = (match r[i]? with
  | some (.ol ds) => (f r).bnd fun d => (imD d).bnd fun d => if decide (ds.length < sizeLine) then .ok (.nx (r.set i (.ol (ds ++ [d])))) else .stuck
  | _ => .stuck) := rfl
@[simp] theorem x_fExt : fExt i f r = (match r[i]? with
  | some (.ol ds) => (f r).bnd fun d => (match d with
    | .lst es => if decide (ds.length + es.length ≤ sizeLine) then .ok (.nx (r.set i (.ol (ds ++ es)))) else .stuck
    | _ => .stuck)
  | _ => .stuck) := rfl
@[simp] theorem x_fSetIx : fSetIx i fa f r = (match r[i]? with
  | some (.ol ds) => (f r).bnd fun d => (imD d).bnd fun d => (fa r).bnd fun k => (match k with
    | .int k => (match ixN ds.length k with
      | some j => .ok (.nx (r.set i (.ol (ds.set j d))))
      | none => .stuck)
    | _ => .stuck)
  | _ => .stuck) := rfl
@[simp] theorem x_fFor (t : Tg) (fi : Rho → R (List D)) : fFor t fi s1 r = (fi r).bnd fun ds => forGo t s1 ds r := rfl
@[simp] theorem x_fWh (m : Rho → Nat) : fWh m ga s1 r = whGo ga s1 (m r) r := rfl
@[simp] theorem x_fFrz : fFrz i s1 r = (match r[i]? with
  | some (.ol ds) => s1 (r.set i (.im (.lst ds)))
  | some (.od ks) => s1 (r.set i (.im (.dic ks)))
  | _ => .stuck) := rfl
theorem x_runF (n : Nat) (ds : List D) : runF s1 n ds = (match s1 (ds.map .im ++ List.replicate (n - ds.length) .un) with
  | .ok (.nx _) => .ok .non
  | .ok (.rt d) => .ok d
  | .ok _ => .stuck
  | .err c => .err c
  | .stuck => .stuck) := rfl
@[simp] theorem x_wipeR_nil : wipeR r [] = r := rfl
@[simp] theorem x_wipeR_cons (v : Nat) (vs : List Nat) : wipeR r (v :: vs) = (wipeR r vs).set v .un := rfl
@[simp] theorem x_noE_ok {α : Type} (a : α) : noE (.ok a) = .ok a := rfl
@[simp] theorem x_ownL_non : ownL r .non = true := rfl
@[simp] theorem x_ownL_bl (b) : ownL r (.bl b) = true := rfl
@[simp] theorem x_ownL_int (b) : ownL r (.int b) = true := rfl
@[simp] theorem x_ownL_str (b) : ownL r (.str b) = true := rfl
@[simp] theorem x_ownL_tup (b) : ownL r (.tup b) = true := rfl
@[simp] theorem x_ownL_lst (b) : ownL r (.lst b) = true := rfl
@[simp] theorem x_ownL_dic (b) : ownL r (.dic b) = true := rfl
@[simp] theorem x_addD_int (a b : Int) : addD r (.int a) (.int b) = .ok (.int (a + b)) := rfl
@[simp] theorem x_addD_tup (a b : List D) : addD r (.tup a) (.tup b) = if decide (a.length + b.length ≤ sizeLine) then .ok (.tup (a ++ b)) else .stuck := rfl
@[simp] theorem x_addD_lst (a b : List D) : addD r (.lst a) (.lst b) = if decide (a.length + b.length ≤ sizeLine) then .ok (.lst (a ++ b)) else .stuck := by
  simp only [addD, catL, viewL]
  split <;> rfl
@[simp] theorem x_subI (a b : Int) : subI r (.int a) (.int b) = .ok (.int (a - b)) := rfl
@[simp] theorem x_mulD_int (a b : Int) : mulD r (.int a) (.int b) = if mulB a b then .ok (.int (a * b)) else .stuck := rfl
@[simp] theorem x_fdivI (a b : Int) : fdivI r (.int a) (.int b) = if divB b then .ok (.int (a / b)) else .stuck := rfl
@[simp] theorem x_modI (a b : Int) : modI r (.int a) (.int b) = if decide (b ≠ 0) then .ok (.int (a.fmod b)) else .stuck := rfl
@[simp] theorem x_ltD_int (a b : Int) : ltD r (.int a) (.int b) = .ok (.bl (decide (a < b))) := rfl
@[simp] theorem x_leD_int (a b : Int) : leD r (.int a) (.int b) = .ok (.bl (decide (a ≤ b))) := rfl
@[simp] theorem x_gtI (a b : Int) : gtI r (.int a) (.int b) = .ok (.bl (decide (b < a))) := rfl
@[simp] theorem x_geI (a b : Int) : geI r (.int a) (.int b) = .ok (.bl (decide (b ≤ a))) := rfl
theorem eqv_int (a b : Int) : PyData.eqv (.int a) (.int b) = (a == b) := by simp [PyData.eqv]
theorem shaped_int (a : Int) : SeqAt.shaped (.int a) = true := by simp [SeqAt.shaped, PyData.canLay0, PyData.depth]
@[simp] theorem x_neD_int (a b : Int) : neD r (.int a) (.int b) = .ok (.bl (!(a == b))) := by
  simp [neD, pyT, py, shaped_int, eqv_int]
@[simp] theorem x_eqD_int (a b : Int) : eqD r (.int a) (.int b) = .ok (.bl (a == b)) := by
  simp [eqD, pyT, py, shaped_int, eqv_int]
@[simp] theorem x_ixD_tup (ds : List D) (k : Int) : ixD r (.tup ds) (.int k) = (match L2.atI ds k with
  | some d => .ok d
  | none => .stuck) := rfl
@[simp] theorem x_ixD_lst (ds : List D) (k : Int) : ixD r (.lst ds) (.int k) = (match L2.atI ds k with
  | some d => .ok d
  | none => .stuck) := rfl
@[simp] theorem x_lenD_tup (ds : List D) : lenD r [.tup ds] = .ok (.int ds.length) := rfl
@[simp] theorem x_lenD_lst (ds : List D) : lenD r [.lst ds] = .ok (.int ds.length) := rfl
@[simp] theorem x_lenD_scr (ns : List Int) : lenD r [.scr ns] = .ok (.int ns.length) := by simp [lenD, viewD]
@[simp] theorem x_absD (k : Int) : absD r [.int k] = .ok (.int (if k < 0 then -k else k)) := rfl
@[simp] theorem x_tupleD_tup (ds : List D) : tupleD r [.tup ds] = .ok (.tup ds) := rfl
@[simp] theorem x_tupleD_lst (ds : List D) : tupleD r [.lst ds] = .ok (.tup ds) := rfl
@[simp] theorem x_listD_tup (ds : List D) : listD r [.tup ds] = .ok ds := rfl
@[simp] theorem x_listD_lst (ds : List D) : listD r [.lst ds] = .ok ds := rfl
@[simp] theorem x_slD_tup (ds : List D) (lo hi : Option Int) : slD r (.tup ds) lo hi = .ok (.tup (cut ds lo hi)) := rfl
@[simp] theorem x_slD_lst (ds : List D) (lo hi : Option Int) : slD r (.lst ds) lo hi = .ok (.lst (cut ds lo hi)) := rfl
@[simp] theorem x_itemsD_tup (ow : Bool) (ds : List D) : itemsD ow r (.tup ds) = .ok ds := rfl
@[simp] theorem x_itemsD_lst (ow : Bool) (ds : List D) : itemsD ow r (.lst ds) = .ok ds := rfl
@[simp] theorem x_szD (ds : List D) : szD ds = decide (ds.length ≤ sizeLine) := rfl
end
theorem sizeLine_ge : (100000 : Nat) ≤ sizeLine := by rw [sizeLine_eq]; decide
theorem sz_le {n : Nat} (h : n ≤ 100000) : n ≤ sizeLine := Nat.le_trans h sizeLine_ge
theorem sz_lt' {n : Nat} (h : n < 100000) : n < sizeLine := Nat.lt_of_lt_of_le h sizeLine_ge
@[simp] theorem at_0 (a : D) (l : List D) : L2.atI (a :: l) 0 = some a := by simp [L2.atI, ixN]
@[simp] theorem at_1 (a b : D) (l : List D) : L2.atI (a :: b :: l) 1 = some b := by
  have : L2.atI (a :: b :: l) ((1 : Nat) : Int) = some b := L2.atI_nat rfl
  exact this
@[simp] theorem at_2 (a b c : D) (l : List D) : L2.atI (a :: b :: c :: l) 2 = some c := by
  have : L2.atI (a :: b :: c :: l) ((2 : Nat) : Int) = some c := L2.atI_nat rfl
  exact this
@[simp] theorem at_3 (a b c e : D) (l : List D) : L2.atI (a :: b :: c :: e :: l) 3 = some e := by
  have : L2.atI (a :: b :: c :: e :: l) ((3 : Nat) : Int) = some e := L2.atI_nat rfl
  exact this
@[simp] theorem at_4 (a b c e f : D) (l : List D) : L2.atI (a :: b :: c :: e :: f :: l) 4 = some f := by
  have : L2.atI (a :: b :: c :: e :: f :: l) ((4 : Nat) : Int) = some f := L2.atI_nat rfl
  exact this
@[simp] theorem sz0 : (0 : Nat) ≤ sizeLine := Nat.zero_le _
@[simp] theorem sz1 : 1 ≤ sizeLine := sz_le (by decide)
@[simp] theorem sz2 : 2 ≤ sizeLine := sz_le (by decide)
@[simp] theorem sz3 : 3 ≤ sizeLine := sz_le (by decide)
@[simp] theorem sz4 : 4 ≤ sizeLine := sz_le (by decide)
@[simp] theorem sz5 : 5 ≤ sizeLine := sz_le (by decide)
theorem gcd_go : ∀ (n : Nat) (a b : Int), b.natAbs < n → ∃ c : Int, c.natAbs = a.gcd b ∧
    whGo (fTest (fBin neD (fVar 1) (fK (.int 0)))) (fPar 0 1 (fCons (fVar 1) (fCons (fBin modI (fVar 0) (fVar 1)) fNil))) n [.im (.int a), .im (.int b)] = .ok (.nx [.im (.int c), .im (.int 0)])
  | 0, a, b, h => by omega
  | n + 1, a, b, h => by
    by_cases hb : b = 0
    · subst hb
      refine ⟨a, by simp, ?_⟩
      simp [whGo]
    · have hlt : (a.fmod b).natAbs < b.natAbs := by
        rcases Int.lt_or_gt_of_ne hb with h1 | h1
        · have e : (-a).fmod (-b) = -a.fmod b := Int.neg_fmod_neg a b
          have h2 := Int.fmod_nonneg_of_pos (-a) (b := -b) (by omega)
          have h3 := Int.fmod_lt_of_pos (-a) (b := -b) (by omega)
          omega
        · have h2 := Int.fmod_nonneg_of_pos a h1
          have h3 := Int.fmod_lt_of_pos a h1
          omega
      obtain ⟨c, e1, e2⟩ := gcd_go n b (a.fmod b) (by omega)
      refine ⟨c, ?_, ?_⟩
      · rw [e1, Int.gcd_comm b, Int.gcd_comm a]
        exact gcd_fmod a b
      · have hbb : (b == 0) = false := by simpa using hb
        simp [whGo, hbb, hb]
        exact e2
where
  gcd_fmod (a b : Int) : (a.fmod b).gcd b = b.gcd a := by
    have h : a.fmod b = a - b * a.fdiv b := Int.fmod_def a b
    rw [h]
    rw [Int.gcd_comm b a]
    have : (a - b * a.fdiv b).gcd b = a.gcd b := by
      rw [Int.sub_eq_add_neg, ← Int.mul_neg]
      exact Int.gcd_add_mul_left_left ..
    exact this
@[simp] theorem F_gcd (a b : Int) : F_greatest_in [.int a, .int b] = .ok (.int ((a.gcd b : Nat) : Int)) := by
  obtain ⟨c, e1, e2⟩ := gcd_go (b.natAbs + 2) a b (by omega)
  have m : m_greatest_in [.im (.int a), .im (.int b)] = b.natAbs + 2 := rfl
  simp only [F_greatest_in, x_runF, B_greatest_in]
  simp [m, e2]
  omega
def fr (q : Rat) : D := .tup [.int q.num, .int q.den]
@[simp] theorem x_imD_fr (q : Rat) : imD (fr q) = .ok (fr q) := rfl
@[simp] theorem x_outD_fr (r : Rho) (q : Rat) : outD r (fr q) = .ok (fr q) := rfl
@[simp] theorem x_ixD_fr0 (r : Rho) (q : Rat) : ixD r (fr q) (.int 0) = .ok (.int q.num) := by simp [fr]
@[simp] theorem x_ixD_fr1 (r : Rho) (q : Rat) : ixD r (fr q) (.int 1) = .ok (.int q.den) := by simp [fr]
def Sm (n : Nat) (q : Rat) : Prop := q.num.natAbs < 2 ^ n ∧ q.den < 2 ^ n
theorem Sm.mono {n m : Nat} {q : Rat} (h : Sm n q) (e : n ≤ m) : Sm m q := ⟨Nat.lt_of_lt_of_le h.1 (Nat.pow_le_pow_right (by decide) e), Nat.lt_of_lt_of_le h.2 (Nat.pow_le_pow_right (by decide) e)⟩
theorem log2_lt_bits {a n : Nat} (h : a < 2 ^ n) : a.log2 < n + 1 := by
  by_cases z : a = 0
  · subst z; simp
  · exact Nat.lt_succ_of_lt ((Nat.log2_lt z).mpr h)
theorem mulB_bits {a b : Int} {n m : Nat} (h1 : a.natAbs < 2 ^ n) (h2 : b.natAbs < 2 ^ m) (h : n + m ≤ 900000) : mulB a b = true := by
  have e1 := log2_lt_bits h1
  have e2 := log2_lt_bits h2
  exact okB_iff.mpr (.inr (by omega))
theorem mul_bits {a b : Int} {n m : Nat} (h1 : a.natAbs < 2 ^ n) (h2 : b.natAbs < 2 ^ m) : (a * b).natAbs < 2 ^ (n + m) := by
  rw [Int.natAbs_mul, Nat.pow_add]
  exact Nat.mul_lt_mul'' h1 h2
theorem add_bits {a b : Int} {n : Nat} (h1 : a.natAbs < 2 ^ n) (h2 : b.natAbs < 2 ^ n) : (a + b).natAbs < 2 ^ (n + 1) := by
  have := Int.natAbs_add_le a b
  rw [Nat.pow_succ]
  omega
theorem divB_gcd {u d : Int} {n : Nat} (hd : d ≠ 0) (h : d.natAbs < 2 ^ n) (hn : n ≤ 8990) : divB ((u.gcd d : Nat) : Int) = true := by
  have hp : 0 < u.gcd d := Nat.pos_of_ne_zero fun z => hd (Int.gcd_eq_zero_iff.mp z).2
  have hle : u.gcd d ≤ d.natAbs := Nat.le_of_dvd (by omega) (Int.gcd_dvd_natAbs_right u d)
  have := log2_lt_bits (Nat.lt_of_le_of_lt hle h)
  refine okB_iff.mpr ⟨by omega, ?_⟩
  rw [Int.natAbs_natCast]
  omega
theorem share_num {u d : Int} (hd : 0 < d) : (Rat.divInt u d).num = u / ((u.gcd d : Nat) : Int) := by
  rw [Rat.num_divInt, Int.sign_eq_one_of_pos hd, Int.one_mul, Int.gcd_comm]
theorem share_den {u d : Int} (hd : 0 < d) : (((Rat.divInt u d).den : Nat) : Int) = d / ((u.gcd d : Nat) : Int) := by
  rw [Rat.den_divInt, if_neg (by omega), Int.gcd_comm, Int.natCast_ediv]
  congr 1
  omega
theorem F_share_ok {u d : Int} {n : Nat} (hd : d ≠ 0) (h : d.natAbs < 2 ^ n) (hn : n ≤ 8990) : F_share [.int u, .int d] = .ok (fr (Rat.divInt u d)) := by
  have dv := divB_gcd (u := u) hd h hn
  simp only [F_share, x_runF, B_share]
  by_cases hp : 0 < d
  · simp [dv, hp, fr, share_num hp, share_den hp]
  · have hneg : 0 < -d := by omega
    have e : Rat.divInt u d = Rat.divInt (-u) (-d) := (Rat.neg_divInt_neg u d).symm
    have g : (-u).gcd (-d) = u.gcd d := by simp [Int.gcd]
    have dn : ((u.gcd d : Nat) : Int) ∣ u := Int.gcd_dvd_left ..
    have dd : ((u.gcd d : Nat) : Int) ∣ d := Int.gcd_dvd_right ..
    simp [dv, hp, fr]
    rw [e, share_num hneg, share_den hneg, g, Int.neg_ediv_of_dvd dn, Int.neg_ediv_of_dvd dd]
    simp
theorem divInt_sm {u d : Int} {n : Nat} (hd : d ≠ 0) (h1 : u.natAbs < 2 ^ n) (h2 : d.natAbs < 2 ^ n) : Sm n (Rat.divInt u d) := by
  constructor
  · rw [Rat.num_divInt]
    refine Nat.lt_of_le_of_lt (Int.natAbs_ediv_le_natAbs _ _) ?_
    rw [Int.natAbs_mul]
    refine Nat.lt_of_le_of_lt ?_ h1
    rcases Int.lt_trichotomy d 0 with z | z | z
    · rw [Int.sign_eq_neg_one_of_neg z]; simp
    · exact absurd z hd
    · rw [Int.sign_eq_one_of_pos z]; simp
  · rw [Rat.den_divInt, if_neg hd]
    exact Nat.lt_of_le_of_lt (Nat.div_le_self _ _) h2
theorem add_divInt (x y : Rat) : Rat.divInt (x.num * y.den + y.num * x.den) (x.den * y.den) = x + y := by
  rw [Rat.add_def', ← Rat.divInt_ofNat]
  congr 1
theorem sub_divInt (x y : Rat) : Rat.divInt (x.num * y.den - y.num * x.den) (x.den * y.den) = x - y := by
  rw [Rat.sub_def', ← Rat.divInt_ofNat]
  congr 1
theorem mul_divInt (x y : Rat) : Rat.divInt (x.num * y.num) (x.den * y.den) = x * y := by
  rw [Rat.mul_def', ← Rat.divInt_ofNat]
  congr 1
theorem den_ne (x : Rat) : (x.den : Int) ≠ 0 := by have := x.den_pos; omega
theorem den_mul_ne (x y : Rat) : (x.den : Int) * y.den ≠ 0 := Int.mul_ne_zero (den_ne x) (den_ne y)
section
variable {x y : Rat} {n m : Nat}
theorem Sm.add (hx : Sm n x) (hy : Sm m y) : Sm (n + m + 1) (x + y) := by
  rw [← add_divInt]
  refine divInt_sm (den_mul_ne x y) (add_bits (mul_bits hx.1 (by simpa using hy.2)) (by rw [Nat.add_comm]; exact mul_bits hy.1 (by simpa using hx.2))) ?_
  exact Nat.lt_of_lt_of_le (mul_bits (by simpa using hx.2) (by simpa using hy.2)) (Nat.pow_le_pow_right (by decide) (by omega))
theorem Sm.sub (hx : Sm n x) (hy : Sm m y) : Sm (n + m + 1) (x - y) := by
  rw [← sub_divInt, Int.sub_eq_add_neg]
  refine divInt_sm (den_mul_ne x y) (add_bits (mul_bits hx.1 (by simpa using hy.2)) (by rw [Nat.add_comm, Int.natAbs_neg]; exact mul_bits hy.1 (by simpa using hx.2))) ?_
  exact Nat.lt_of_lt_of_le (mul_bits (by simpa using hx.2) (by simpa using hy.2)) (Nat.pow_le_pow_right (by decide) (by omega))
theorem Sm.mul (hx : Sm n x) (hy : Sm m y) : Sm (n + m) (x * y) := by
  rw [← mul_divInt]
  exact divInt_sm (den_mul_ne x y) (mul_bits hx.1 hy.1) (mul_bits (by simpa using hx.2) (by simpa using hy.2))
theorem F_plus_ok (hx : Sm n x) (hy : Sm m y) (h : n + m ≤ 8990) : F_plus [fr x, fr y] = .ok (fr (x + y)) := by
  have m1 : mulB x.num y.den = true := mulB_bits hx.1 (by simpa using hy.2) (by omega)
  have m2 : mulB y.num x.den = true := mulB_bits hy.1 (by simpa using hx.2) (by omega)
  have m3 : mulB x.den y.den = true := mulB_bits (n := n) (m := m) (by simpa using hx.2) (by simpa using hy.2) (by omega)
  simp only [F_plus, x_runF, B_plus]
  simp [m1, m2, m3]
  rw [F_share_ok (den_mul_ne x y) (mul_bits (by simpa using hx.2) (by simpa using hy.2)) h, add_divInt]
  simp
end
end PL
end
section
namespace PL
open PySem PySem.Spec PyProof.Rows L2 PL.G
def Dep (n : Nat) (d : D) : Prop := (py d).canLay0 = true ∧ (py d).depth ≤ n
def Deps (n : Nat) (ds : List D) : Prop := PyData.canLayAll0 (pys ds) = true ∧ PyData.depthAll (pys ds) ≤ n
theorem deps_of {n : Nat} : ∀ {ds : List D}, (∀ d ∈ ds, Dep n d) → Deps n ds
  | [], _ => ⟨rfl, Nat.zero_le _⟩
  | d :: ds, h => by
    have h1 := h d List.mem_cons_self
    have h2 := deps_of (ds := ds) fun e he => h e (List.mem_cons_of_mem _ he)
    refine ⟨?_, ?_⟩
    · show ((py d).canLay0 && PyData.canLayAll0 (pys ds)) = true
      rw [h1.1, h2.1]; rfl
    · show max (py d).depth (PyData.depthAll (pys ds)) ≤ n
      have a := h1.2
      have b := h2.2
      omega
theorem dep_tup {n : Nat} {ds : List D} (h : ∀ d ∈ ds, Dep n d) : Dep (n + 1) (.tup ds) := by
  have q := deps_of h
  exact ⟨q.1, Nat.succ_le_succ q.2⟩
theorem dep_lst {n : Nat} {ds : List D} (h : ∀ d ∈ ds, Dep n d) : Dep (n + 1) (.lst ds) := by
  have q := deps_of h
  exact ⟨q.1, Nat.succ_le_succ q.2⟩
theorem dep_int (n : Nat) (i : Int) : Dep n (.int i) := ⟨rfl, Nat.zero_le _⟩
theorem dep_str (n : Nat) {x : Str} (h : PyData.strOk x = true) : Dep n (.str x) := ⟨h, Nat.zero_le _⟩
theorem Dep.mono {n m : Nat} {d : D} (h : Dep n d) (e : n ≤ m) : Dep m d := ⟨h.1, Nat.le_trans h.2 e⟩
theorem dep_fr (q : Rat) : Dep 1 (fr q) := dep_tup (n := 0) fun d hd => by
  rcases List.mem_cons.mp hd with h | h
  · rw [h]; exact dep_int _ _
  · rcases List.mem_cons.mp h with h | h
    · rw [h]; exact dep_int _ _
    · cases h
theorem Dep.shaped {n : Nat} {d : D} (h : Dep n d) (e : n ≤ 64) : SeqAt.shaped (py d) = true := by
  unfold SeqAt.shaped
  rw [h.1, decide_eq_true (Nat.le_trans h.2 e)]
  rfl
theorem pyT_of {r : Rho} {d : D} (h : noOwn d = true) : pyT r d = py d := by
  cases d <;> first | rfl | cases h
theorem dep_noOwn {n : Nat} {d : D} (h : Dep n d) : noOwn d = true := by
  cases d with
  | obj i => exact absurd h.1 (by simp [py, PyData.canLay0])
  | tpo i => exact absurd h.1 (by simp [py, PyData.canLay0])
  | own i => cases h.1
  | _ => rfl
theorem neD_self {r : Rho} {d : D} {n : Nat} (h : Dep n d) (e : n ≤ 64) : neD r d d = .ok (.bl false) := by
  unfold neD
  rw [pyT_of (dep_noOwn h), h.shaped e, SeqAt.eqv_refl _ h.1]
  rfl
theorem eqD_self {r : Rho} {d : D} {n : Nat} (h : Dep n d) (e : n ≤ 64) : eqD r d d = .ok (.bl true) := by
  unfold eqD
  rw [pyT_of (dep_noOwn h), h.shaped e, SeqAt.eqv_refl _ h.1]
  rfl
theorem eqv_fr (x y : Rat) : PyData.eqv (py (fr x)) (py (fr y)) = decide (x = y) := by
  have e : PyData.eqv (py (fr x)) (py (fr y)) = ((x.num == y.num) && (((x.den : Int) == y.den) && true)) := by
    simp [fr, py, pys, PyData.eqv, PyData.eqvAll]
  rw [e]
  by_cases h : x = y
  · subst h; simp
  · have : ¬ (x.num = y.num ∧ (x.den : Int) = y.den) := fun ⟨a, b⟩ => h (Rat.ext a (by omega))
    simp only [Bool.and_true, h, decide_false]
    cases q : (x.num == y.num) with
    | false => rfl
    | true =>
      cases q2 : ((x.den : Int) == y.den) with
      | false => rfl
      | true => exact absurd ⟨by simpa using q, by simpa using q2⟩ this
@[simp] theorem eqD_fr (r : Rho) (x y : Rat) : eqD r (fr x) (fr y) = .ok (.bl (decide (x = y))) := by
  unfold eqD
  rw [pyT_of rfl, pyT_of rfl, (dep_fr x).shaped (by decide), (dep_fr y).shaped (by decide), eqv_fr]
  rfl
@[simp] theorem neD_fr (r : Rho) (x y : Rat) : neD r (fr x) (fr y) = .ok (.bl (!decide (x = y))) := by
  unfold neD
  rw [pyT_of rfl, pyT_of rfl, (dep_fr x).shaped (by decide), (dep_fr y).shaped (by decide), eqv_fr]
  rfl
theorem eqv_str (a b : Str) : PyData.eqv (.str a) (.str b) = (a == b) := by simp [PyData.eqv]
theorem eqD_str {r : Rho} {a b : Str} (ha : PyData.strOk a = true) (hb : PyData.strOk b = true) : eqD r (.str a) (.str b) = .ok (.bl (a == b)) := by
  unfold eqD
  rw [pyT_of rfl, pyT_of rfl, (dep_str 0 ha).shaped (by decide), (dep_str 0 hb).shaped (by decide)]
  show R.ok (D.bl (PyData.eqv (.str a) (.str b))) = _
  rw [eqv_str]
theorem neD_str {r : Rho} {a b : Str} (ha : PyData.strOk a = true) (hb : PyData.strOk b = true) : neD r (.str a) (.str b) = .ok (.bl (!(a == b))) := by
  unfold neD
  rw [pyT_of rfl, pyT_of rfl, (dep_str 0 ha).shaped (by decide), (dep_str 0 hb).shaped (by decide)]
  show R.ok (D.bl (!PyData.eqv (.str a) (.str b))) = _
  rw [eqv_str]
theorem lcGo_typed {α : Type} {t : Tg} {ft : Rho → R Bool} {fe : Rho → R D} {r : Rho} (g : α → D) (p : α → Bool) (v : α → D) : ∀ (xs : List α), (∀ x ∈ xs, ∃ r2, setT t (g x) r = .ok r2 ∧ ft r2 = .ok (p x) ∧ (p x = true → fe r2 = .ok (v x) ∧ noOwn (v x) = true)) → lcGo t ft fe r (xs.map g) = .ok ((xs.filter p).map v)
  | [], _ => rfl
  | x :: xs, h => by
    obtain ⟨r2, h1, h2, h3⟩ := h x List.mem_cons_self
    have ih := lcGo_typed (t := t) (ft := ft) (fe := fe) (r := r) g p v xs fun y hy => h y (List.mem_cons_of_mem _ hy)
    rw [List.map_cons, lcGo, h1]
    simp only [x_noE_ok, bnd_ok, h2]
    cases hp : p x with
    | false =>
      simp only [Bool.false_eq_true, if_false]
      rw [ih, List.filter_cons_of_neg (by simp [hp])]
    | true =>
      obtain ⟨h4, h5⟩ := h3 hp
      simp only [if_true, h4, x_noE_ok, bnd_ok, imD, h5, ih]
      rw [List.filter_cons_of_pos hp, List.map_cons]
theorem lcGo_all {α : Type} {t : Tg} {fe : Rho → R D} {r : Rho} (g : α → D) (v : α → D) (xs : List α) (h : ∀ x ∈ xs, ∃ r2, setT t (g x) r = .ok r2 ∧ fe r2 = .ok (v x) ∧ noOwn (v x) = true) : lcGo t (fun _ => .ok true) fe r (xs.map g) = .ok (xs.map v) := by
  have q := lcGo_typed (t := t) (ft := fun _ => .ok true) (fe := fe) (r := r) g (fun _ => true) v xs fun x hx => by
    obtain ⟨r2, h1, h2, h3⟩ := h x hx
    exact ⟨r2, h1, rfl, fun _ => ⟨h2, h3⟩⟩
  rw [q]
  congr 2
  exact List.filter_eq_self.mpr fun _ _ => rfl
theorem forGo_fold {α σ : Type} {t : Tg} {fb : Rho → R Fl} (g : α → D) (rho : σ → Rho) (step : σ → α → σ) (P : List α → σ → Prop) : ∀ (xs : List α) (s : σ), P xs s → (∀ x xs s, P (x :: xs) s → P xs (step s x) ∧ ∃ r2, setT t (g x) (rho s) = .ok r2 ∧ (fb r2 = .ok (.nx (rho (step s x))) ∨ fb r2 = .ok (.ct (rho (step s x))))) →
    forGo t fb (xs.map g) (rho s) = .ok (.nx (rho (xs.foldl step s)))
  | [], s, _, _ => rfl
  | x :: xs, s, h0, h => by
    obtain ⟨h1, r2, h2, h3⟩ := h x xs s h0
    have ih := forGo_fold (t := t) (fb := fb) g rho step P xs (step s x) h1 h
    rw [List.map_cons, forGo, h2]
    simp only [x_noE_ok, bnd_ok]
    rcases h3 with h3 | h3
    · rw [h3]
      simp only [bnd_ok]
      exact ih
    · rw [h3]
      simp only [bnd_ok]
      exact ih
theorem rangeD1_ok (n : Nat) (h : n ≤ 1000) : rangeD1 [.int n] = .ok ((List.range n).map fun (i : Nat) => .int (i : Int)) := by
  simp only [rangeD1]
  rw [if_pos (okB_iff.mpr ⟨by omega, by omega⟩)]
  simp
theorem dep_ints : ∀ ns : List Int, PyData.canLayAll0 (ns.map PyData.int) = true ∧ PyData.depthAll (ns.map PyData.int) = 0
  | [] => ⟨rfl, rfl⟩
  | n :: ns => by
    obtain ⟨h1, h2⟩ := dep_ints ns
    exact ⟨by show (true && _) = true; rw [h1]; rfl, by show max 0 _ = 0; rw [h2]; rfl⟩
theorem dep_scr (ns : List Int) : Dep 1 (.scr ns) := by
  obtain ⟨h1, h2⟩ := dep_ints ns
  exact ⟨h1, by show PyData.depthAll (ns.map PyData.int) + 1 ≤ 1; omega⟩
theorem scr_nil (r : Rho) (ns : List Int) : eqD r (.scr ns) (.lst []) = .ok (.bl ns.isEmpty) := by
  unfold eqD
  rw [pyT_of rfl, pyT_of rfl, (dep_scr ns).shaped (by decide), (dep_lst (n := 0) (ds := []) (by simp)).shaped (by decide)]
  cases ns <;> simp [py, pys, PyData.eqv, PyData.eqvAll]
theorem mulB_l {a b : Int} (h1 : -(2 ^ 64) < a) (h2 : a < 2 ^ 64) : mulB a b = true := okB_iff.mpr (.inl (.inl ⟨h1, h2⟩))
theorem mulB_r {a b : Int} (h1 : -(2 ^ 64) < b) (h2 : b < 2 ^ 64) : mulB a b = true := okB_iff.mpr (.inl (.inr ⟨h1, h2⟩))
theorem atI_scr (ns : List Int) (k : Int) (h0 : 0 ≤ k) (h : k < ns.length) : ∃ c, L2.atI (ns.map D.int) k = some (.int c) := by
  have hj : k.toNat < ns.length := by omega
  obtain ⟨c, hc⟩ : ∃ c, (ns.map D.int)[k.toNat]? = some (.int c) := ⟨ns[k.toNat], by rw [List.getElem?_map, List.getElem?_eq_getElem hj]; rfl⟩
  refine ⟨c, ?_⟩
  have e : ((k.toNat : Nat) : Int) = k := by omega
  have q := L2.atI_nat hc
  rw [e] at q
  exact q
theorem cell_ok (ns : List Int) (k : Int) (h0 : 0 ≤ k) : ∃ c, F_u_law_cell [.scr ns, .int k] = .ok (.int c) := by
  simp only [F_u_law_cell, x_runF, B_u_law_cell]
  by_cases h : k < ns.length
  · obtain ⟨c, hc⟩ := atI_scr ns k h0 h
    refine ⟨c, ?_⟩
    simp [h, ixD, viewD, hc]
  · cases ns with
    | nil =>
      have h' : ¬ k < 0 := by omega
      exact ⟨0, by simp [h', scr_nil]⟩
    | cons x xs =>
      have hl : (0 : Int) < ((x :: xs).length : Int) := by simp
      have hm0 := Int.fmod_nonneg_of_pos k hl
      have hm1 := Int.fmod_lt_of_pos k hl
      obtain ⟨c, hc⟩ := atI_scr (x :: xs) (k.fmod ((x :: xs).length : Int)) hm0 hm1
      have hc' : L2.atI (D.int x :: List.map D.int xs) (k.fmod ((xs.length : Int) + 1)) = some (.int c) := by simpa using hc
      have hz : ((xs.length : Int) + 1 = 0) = False := by simp; omega
      refine ⟨c * 31 + k, ?_⟩
      have mm : mulB c 31 = true := mulB_r (by decide) (by decide)
      have h' : ¬ k < (xs.length : Int) + 1 := by simpa using h
      simp [h', scr_nil, ixD, viewD, hc', hz, mm]
noncomputable def pk (ns : List Int) (k m : Int) : Int := match F_u_law_pick [.scr ns, .int k, .int m] with
  | .ok (.int p) => p
  | _ => 0
theorem pick_ex (ns : List Int) (k m : Int) (h0 : 0 ≤ k) (hm : 0 < m) : ∃ p, F_u_law_pick [.scr ns, .int k, .int m] = .ok (.int p) ∧ 0 ≤ p ∧ p < m := by
  obtain ⟨c, hc⟩ := cell_ok ns k h0
  have m1 : mulB 6151 (k + 1) = true := mulB_l (by decide) (by decide)
  have m2 : mulB (c + 6151 * (k + 1)) 40692 = true := mulB_r (by decide) (by decide)
  have d0 := Int.fmod_nonneg_of_pos ((c + 6151 * (k + 1)) * 40692) (b := 2147483399) (by decide)
  have d1 := Int.fmod_lt_of_pos ((c + 6151 * (k + 1)) * 40692) (b := 2147483399) (by decide)
  generalize hd : ((c + 6151 * (k + 1)) * 40692).fmod 2147483399 = drawn at d0 d1
  have m3 : mulB drawn drawn = true := mulB_l (by omega) (by omega)
  have dv : divB 31 = true := okB_iff.mpr ⟨by decide, by decide⟩
  have hmz : (m = 0) = False := by simp; omega
  refine ⟨((drawn * drawn + drawn / 31).fmod 2147483629).fmod m, ?_, Int.fmod_nonneg_of_pos _ hm, Int.fmod_lt_of_pos _ hm⟩
  simp only [F_u_law_pick, x_runF, B_u_law_pick]
  simp [hc, m1, m2, m3, dv, hmz, hd]
theorem pick_ok (ns : List Int) (k m : Int) (h0 : 0 ≤ k) (hm : 0 < m) : F_u_law_pick [.scr ns, .int k, .int m] = .ok (.int (pk ns k m)) ∧ 0 ≤ pk ns k m ∧ pk ns k m < m := by
  obtain ⟨p, h1, h2, h3⟩ := pick_ex ns k m h0 hm
  unfold pk
  rw [h1]
  exact ⟨rfl, h2, h3⟩
theorem gcd_go2 : ∀ (n : Nat) (u d a b : Int), b.natAbs < n → 0 ≤ a → 0 ≤ b →
    whGo (fTest (fBin neD (fVar 3) (fK (.int 0)))) (fPar 2 3 (fCons (fVar 3) (fCons (fBin modI (fVar 2) (fVar 3)) fNil))) n [.im (.int u), .im (.int d), .im (.int a), .im (.int b)] = .ok (.nx [.im (.int u), .im (.int d), .im (.int ((a.gcd b : Nat) : Int)), .im (.int 0)])
  | 0, _, _, a, b, h, _, _ => by omega
  | n + 1, u, d, a, b, h, ha, hb0 => by
    by_cases hb : b = 0
    · subst hb
      simp [whGo]
      omega
    · have h1 : 0 < b := by omega
      have h2 := Int.fmod_nonneg_of_pos a h1
      have h3 := Int.fmod_lt_of_pos a h1
      have ih := gcd_go2 n u d b (a.fmod b) (by omega) hb0 h2
      have hbb : (b == 0) = false := by simpa using hb
      have e : b.gcd (a.fmod b) = a.gcd b := by
        rw [Int.gcd_comm b, gcd_go.gcd_fmod, Int.gcd_comm]
      rw [e] at ih
      simp [whGo, hbb, hb]
      exact ih
theorem abs_if (u : Int) : (if u < 0 then -u else u) = (u.natAbs : Int) := by
  split <;> omega
theorem F_low_ok {u d : Int} {n : Nat} (hd : d ≠ 0) (h : d.natAbs < 2 ^ n) (hn : n ≤ 8990) : F_u_law_low [.int u, .int d] = .ok (fr (Rat.divInt u d)) := by
  have dv := divB_gcd (u := u) hd h hn
  have m : m_u_law_low [.im (.int u), .im (.int d), .im (.int (u.natAbs : Int)), .im (.int (d.natAbs : Int))] = d.natAbs + 2 := by simp [m_u_law_low, mAbs]
  have g2 := gcd_go2 (d.natAbs + 2) u d (u.natAbs : Int) (d.natAbs : Int) (by omega) (by omega) (by omega)
  have ge : ((u.natAbs : Int)).gcd (d.natAbs : Int) = u.gcd d := by simp [Int.gcd]
  rw [ge] at g2
  simp only [F_u_law_low, x_runF, B_u_law_low]
  by_cases hp : 0 < d
  · simp [abs_if, m, g2, dv, hp, fr, share_num hp, share_den hp]
  · have hneg : 0 < -d := by omega
    have e : Rat.divInt u d = Rat.divInt (-u) (-d) := (Rat.neg_divInt_neg u d).symm
    have g : (-u).gcd (-d) = u.gcd d := by simp [Int.gcd]
    have dn : ((u.gcd d : Nat) : Int) ∣ u := Int.gcd_dvd_left ..
    have dd : ((u.gcd d : Nat) : Int) ∣ d := Int.gcd_dvd_right ..
    simp [abs_if, m, g2, dv, hp, fr]
    rw [e, share_num hneg, share_den hneg, g, Int.neg_ediv_of_dvd dn, Int.neg_ediv_of_dvd dd]
    simp
end PL
end
section
namespace PL
open PySem PySem.Spec PyProof.Rows L2 PL.G
@[simp] theorem x_isTy_int (i : Int) (t : String) : isTy (.int i) t = (t == "int") := rfl
@[simp] theorem x_isTy_bl (i : Bool) (t : String) : isTy (.bl i) t = (t == "bool" || t == "int") := rfl
@[simp] theorem x_isTy_str (i : Str) (t : String) : isTy (.str i) t = (t == "str") := rfl
@[simp] theorem x_isTy_tup (i : List D) (t : String) : isTy (.tup i) t = (t == "tuple") := rfl
@[simp] theorem x_isTy_lst (i : List D) (t : String) : isTy (.lst i) t = (t == "list") := rfl
@[simp] theorem x_isTy_non (t : String) : isTy .non t = false := rfl
@[simp] theorem x_allD (g : List Bool → Bool) (r : Rho) (ds : List D) : allD g r [.lst ds] = (match boolsOf ds with
  | some bs => .ok (.bl (g bs))
  | none => .stuck) := rfl
theorem boolsOf_map (bs : List Bool) : boolsOf (bs.map D.bl) = some bs := by
  induction bs with
  | nil => rfl
  | cons b bs ih => simp [boolsOf, ih]
@[simp] theorem slt1 : 1 < sizeLine := sz_lt' (by decide)
@[simp] theorem slt2 : 2 < sizeLine := sz_lt' (by decide)
@[simp] theorem slt3 : 3 < sizeLine := sz_lt' (by decide)
@[simp] theorem slt4 : 4 < sizeLine := sz_lt' (by decide)
@[simp] theorem slt0 : 0 < sizeLine := sz_lt' (by decide)
theorem F_isfr (q : Rat) : F_is_fraction [fr q] = .ok (.bl true) := by
  have h1 : (0 : Int) < q.den := by have := q.den_pos; omega
  have h2 : q.num.gcd q.den = 1 := by simpa [Int.gcd] using q.reduced
  simp only [F_is_fraction, x_runF, B_is_fraction]
  simp [fr, lcGo, boolsOf, q.den_pos, h2]
structure Ly where
  ov : Bool
  ws : List Rat
  mask : List Rat
  sh : Rat
structure Lok (m n : Nat) (l : Ly) : Prop where
  lw : l.ws.length = m
  lm : l.mask.length = m
  ws : ∀ q ∈ l.ws, Sm n q
  mp : ∀ q ∈ l.mask, 0 ≤ q ∧ q ≤ 1
  ms : ∀ q ∈ l.mask, Sm 4 q
  sp : 0 ≤ l.sh ∧ l.sh ≤ 1
  ss : Sm 4 l.sh
theorem fLc_ok {vs : List Nat} {t : Tg} {fi : Rho → R (List D)} {ga : Rho → R Bool} {f : Rho → R D} {r : Rho} {X Y : List D} (h1 : fi r = .ok X) (h2 : X.length < 100000) (h3 : lcGo t ga f (wipeR r vs) X = .ok Y) : fLc vs t fi ga f r = .ok Y := by
  rw [x_fLc, h1, bnd_ok, if_pos (decide_eq_true (sz_lt' h2)), h3]
theorem F_iswhole (j lo hi : Int) : F_is_whole [.int j, .int lo, .int hi] = .ok (.bl (decide (lo ≤ j ∧ j ≤ hi))) := by
  simp only [F_is_whole, x_runF, B_is_whole]
  by_cases h : lo ≤ j
  · simp [h]
  · simp [h]
theorem sm_one : Sm 1 1 := ⟨by decide, by decide⟩
theorem sm_zero : Sm 1 0 := ⟨by decide, by decide⟩
end PL
end
section
namespace PL
open PySem PySem.Spec PyProof.Rows L2 PL.G
theorem seq_nx {s1 s2 : Rho → R Fl} {r r' : Rho} (h : s1 r = .ok (.nx r')) : fSeq s1 s2 r = s2 r' := by
  rw [x_fSeq, h]; rfl
theorem run_rt {s1 : Rho → R Fl} {n : Nat} {ds : List D} {r0 : Rho} {d : D} (h0 : ds.map .im ++ List.replicate (n - ds.length) .un = r0) (h : s1 r0 = .ok (.rt d)) : runF s1 n ds = .ok d := by
  rw [x_runF, h0, h]
theorem seq_go {s1 s2 : Rho → R Fl} {r r' : Rho} {x : R Fl} (h : s1 r = .ok (.nx r')) (h2 : s2 r' = x) : fSeq s1 s2 r = x := by
  rw [x_fSeq, h]; exact h2
theorem asg_to {i : Nat} {f : Rho → R D} {r r' : Rho} {d : D} (h : f r = .ok d) (hd : imD d = .ok d) (hi : i < r.length) (he : r.set i (.im d) = r') : fAsg (.nm i) f r = .ok (.nx r') := by
  rw [x_fAsg, h, bnd_ok, hd, bnd_ok, x_setT_nm, if_pos (decide_eq_true hi), he]; rfl
theorem for_go {t : Tg} {fi : Rho → R (List D)} {fb : Rho → R Fl} {r : Rho} {ds : List D} {x : R Fl} (h1 : fi r = .ok ds) (h2 : forGo t fb ds r = x) : fFor t fi fb r = x := by
  rw [x_fFor, h1, bnd_ok, h2]
theorem if_skip {g : Rho → R Bool} {s1 : Rho → R Fl} {r : Rho} (h : g r = .ok false) : fIfS g s1 fNx r = .ok (.nx r) := by
  rw [x_fIfS, h]; rfl
theorem or_no {a b : Rho → R Bool} {r : Rho} (h1 : a r = .ok false) (h2 : b r = .ok false) : fOr a b r = .ok false := by
  rw [x_fOr, h1]; exact h2
theorem ne_no {fa fb : Rho → R D} {r : Rho} {d : D} {n : Nat} (h1 : fa r = .ok d) (h2 : fb r = .ok d) (hd : Dep n d) (hn : n ≤ 64) : fTest (fBin neD fa fb) r = .ok false := by
  rw [x_fTest, x_fBin, h1, bnd_ok, h2, bnd_ok, neD_self hd hn]; rfl
theorem call_1 {F : List D → R D} {fa : Rho → R D} {r : Rho} {a d : D} (h1 : fa r = .ok a) (i1 : imD a = .ok a) (h : F [a] = .ok d) : fCall 1 F (fCons fa fNil) r = .ok d := by
  rw [x_fCall, x_fCons, h1, bnd_ok, i1]; exact h
theorem call_2 {F : List D → R D} {fa fb : Rho → R D} {r : Rho} {a b d : D} (h1 : fa r = .ok a) (i1 : imD a = .ok a) (h2 : fb r = .ok b) (i2 : imD b = .ok b) (h : F [a, b] = .ok d) : fCall 2 F (fCons fa (fCons fb fNil)) r = .ok d := by
  rw [x_fCall, x_fCons, h1, bnd_ok, i1, bnd_ok, x_fCons, h2, bnd_ok, i2]; exact h
theorem call_3 {F : List D → R D} {fa fb fc : Rho → R D} {r : Rho} {a b c d : D} (h1 : fa r = .ok a) (i1 : imD a = .ok a) (h2 : fb r = .ok b) (i2 : imD b = .ok b) (h3 : fc r = .ok c) (i3 : imD c = .ok c) (h : F [a, b, c] = .ok d) : fCall 3 F (fCons fa (fCons fb (fCons fc fNil))) r = .ok d := by
  rw [x_fCall, x_fCons, h1, bnd_ok, i1, bnd_ok, x_fCons, h2, bnd_ok, i2, bnd_ok, x_fCons, h3, bnd_ok, i3]; exact h
theorem tup_of {fl : Rho → R (List D)} {r : Rho} {ds : List D} (h : fl r = .ok ds) : fCallB tupleD (fConsB (fL fl) fNil) r = .ok (.tup ds) := by
  rw [x_fCallB, x_fConsB, x_fL, h]; rfl
theorem fL_of {fl : Rho → R (List D)} {r : Rho} {ds : List D} (h : fl r = .ok ds) : fL fl r = .ok (.lst ds) := by
  rw [x_fL, h]; rfl
theorem lc_range {i n : Nat} {r : Rho} {fi : Rho → R D} {fe : Rho → R D} (v : Nat → D) (hn : n ≤ 1000) (h1 : fi r = .ok (.int n)) (hi : i < r.length) (h : ∀ k, k < n → fe (r.set i (.im (.int k))) = .ok (v k) ∧ noOwn (v k) = true) :
    fLc [i] (.nm i) (fRg rangeD1 (fCons fi fNil)) (fun _ => .ok true) fe r = .ok ((List.range n).map v) := by
  refine fLc_ok (X := (List.range n).map fun (k : Nat) => D.int (k : Int)) ?_ (by simp; omega) ?_
  · simp only [x_fRg, x_fCons, h1, bnd_ok, x_imD_int, x_fNil]
    rw [rangeD1_ok n hn]
  · refine lcGo_all (t := .nm i) (fun (k : Nat) => D.int (k : Int)) v (List.range n) fun k hk => ?_
    obtain ⟨e1, e2⟩ := h k (List.mem_range.mp hk)
    refine ⟨r.set i (.im (.int k)), ?_, e1, e2⟩
    simp [wipeR, hi]
theorem sIx_none (n d : Nat) : HT.sIx n d none = d := rfl
theorem sIx_nat (n d a : Nat) (h : a ≤ n) : HT.sIx n d (some (a : Int)) = a := by
  show (if (a : Int) < 0 then ((a : Int) + n).toNat else min (a : Int).toNat n) = a
  rw [if_neg (by omega)]
  omega
theorem cut_drop {α : Type} (xs : List α) (a : Nat) (h : a ≤ xs.length) : cut xs (some (a : Int)) none = xs.drop a := by
  unfold cut
  rw [sIx_none, sIx_nat _ _ _ h]
  apply List.take_of_length_le
  simp
end PL
end
section
namespace PL
open PySem PySem.Spec PyProof.Rows L2 PL.G
inductive Lv (w : Nat) : Nat → D → Prop
  | non (n : Nat) : Lv w n .non
  | bl (n : Nat) (b : Bool) : Lv w n (.bl b)
  | int (n : Nat) (i : Int) : i.natAbs < 2 ^ 64 → Lv w n (.int i)
  | str (n : Nat) (x : Str) : PyData.strOk x = true → x.length ≤ 100 → Lv w n (.str x)
  | tup (n : Nat) (ds : List D) : ds.length ≤ w → (∀ d ∈ ds, Lv w n d) → Lv w (n + 1) (.tup ds)
theorem Lv.mono {w w' n m : Nat} {d : D} (h : Lv w n d) (hw : w ≤ w') : n ≤ m → Lv w' m d := by
  induction h generalizing m with
  | non n => exact fun _ => .non m
  | bl n b => exact fun _ => .bl m b
  | int n i h => exact fun _ => .int m i h
  | str n x h1 h2 => exact fun _ => .str m x h1 h2
  | tup n ds h1 h2 ih =>
    intro e
    obtain ⟨k, rfl⟩ : ∃ k, m = k + 1 := ⟨m - 1, by omega⟩
    exact .tup k ds (by omega) fun d hd => ih d hd (by omega)
theorem Lv.im {w n : Nat} {d : D} (h : Lv w n d) : imD d = .ok d := by cases h <;> rfl
theorem Lv.noOwn {w n : Nat} {d : D} (h : Lv w n d) : noOwn d = true := by cases h <;> rfl
theorem Lv.own {w n : Nat} {d : D} (h : Lv w n d) (r : Rho) : ownL r d = true := by cases h <;> rfl
theorem Lv.out {w n : Nat} {d : D} (h : Lv w n d) (r : Rho) : outD r d = .ok d := by cases h <;> rfl
theorem Lv.mem {w n : Nat} {ds : List D} {d : D} (h : Lv w (n + 1) (.tup ds)) (m : d ∈ ds) : Lv w n d := by
  cases h with
  | tup n ds h1 h2 => exact h2 d m
theorem Lv.len {w n : Nat} {ds : List D} (h : Lv w n (.tup ds)) : ds.length ≤ w := by
  cases h with
  | tup n ds h1 h2 => exact h1
inductive Th : Nat → D → Prop
  | int (n : Nat) (i : Int) : i.natAbs < 2 ^ 60 → Th n (.int i)
  | str (n : Nat) (x : Str) : PyData.strOk x = true → x.length ≤ 100 → Th n (.str x)
  | tup (n : Nat) (ds : List D) : ds.length ≤ 6 → (∀ d ∈ ds, Th n d) → Th (n + 1) (.tup ds)
theorem Th.lv {n : Nat} {d : D} (h : Th n d) : Lv 6 n d := by
  induction h with
  | int n i h => exact .int n i (Nat.lt_of_lt_of_le h (by decide))
  | str n x h1 h2 => exact .str n x h1 h2
  | tup n ds h1 h2 ih => exact .tup n ds h1 ih
theorem Th.mono {n m : Nat} {d : D} (h : Th n d) : n ≤ m → Th m d := by
  induction h generalizing m with
  | int n i h => exact fun _ => .int m i h
  | str n x h1 h2 => exact fun _ => .str m x h1 h2
  | tup n ds h1 h2 ih =>
    intro e
    obtain ⟨k, rfl⟩ : ∃ k, m = k + 1 := ⟨m - 1, by omega⟩
    exact .tup k ds h1 fun d hd => ih d hd (by omega)
theorem Th.bits {n : Nat} {i : Int} (h : Th n (.int i)) : i.natAbs < 2 ^ 60 := by
  cases h with
  | int _ _ h => exact h
theorem seq_rt0 {s1 s2 : Rho → R Fl} {r : Rho} {d : D} (h : s1 r = .ok (.rt d)) : fSeq s1 s2 r = .ok (.rt d) := by
  rw [x_fSeq, h]; rfl
theorem atI_nat {α : Type} (xs : List α) (i : Nat) {x : α} (h : xs[i]? = some x) : L2.atI xs (i : Int) = some x := by
  have lt := (List.getElem?_eq_some_iff.mp h).1
  unfold L2.atI ixN
  rw [if_pos (by omega), if_pos (by omega)]
  simp [h]
end PL
end
section
namespace PL
open PySem PySem.Spec PyProof.Rows L2 PL.G
abbrev Bk := List (Str × List Int)
def pD (p : Str × List Int) : D := .tup [.str p.1, .tup (p.2.map .int)]
def bkD (b : Bk) : D := .tup (b.map pD)
def lawNames : List Str := [Str.ofString "a", Str.ofString "idle", Str.ofString "run", Str.ofString "walk", Str.ofString "z", Str.ofString "zeal"]
def Nm0 (x : Str) : Prop := x ∈ lawNames ∨ x = Str.ofString "sole"
def Nm (x : Str) : Prop := F_is_name [.str x] = .ok (.bl true) ∧ PyData.strOk x = true ∧ x.length ≤ 100 ∧ strLt (Str.ofString "") x = true
theorem nm0_nm {x : Str} (h : Nm0 x) : Nm x := by
  rcases h with h | rfl
  · simp only [lawNames, List.mem_cons, List.not_mem_nil, or_false] at h
    rcases h with rfl | rfl | rfl | rfl | rfl | rfl <;> exact ⟨by kernel_rfl, by decide +kernel, by decide +kernel, by decide +kernel⟩
  · exact ⟨by kernel_rfl, by decide +kernel, by decide +kernel, by decide +kernel⟩
theorem nm_name {x : Str} (h : Nm x) : F_is_name [.str x] = .ok (.bl true) := h.1
theorem nm_ok {x : Str} (h : Nm x) : PyData.strOk x = true := h.2.1
theorem lawNames_sorted : lawNames.Pairwise (fun a b => strLt a b = true) := by decide +kernel
structure Bok (m : Nat) (b : Bk) : Prop where
  m1 : 1 ≤ m
  m4 : m ≤ 4
  l1 : 1 ≤ b.length
  l6 : b.length ≤ 6
  nm : ∀ p ∈ b, Nm p.1
  ln : ∀ p ∈ b, p.2.length = m
  rg : ∀ p ∈ b, ∀ i ∈ p.2, -999 ≤ i ∧ i ≤ 999
  srt : b.Pairwise (fun p q => strLt p.1 q.1 = true)
theorem allD_ok {α : Type} {r : Rho} {fl : Rho → R (List D)} (g : List Bool → Bool) (xs : List α) (v : α → Bool) (h : fl r = .ok (xs.map fun x => D.bl (v x))) : fCallB (allD g) (fConsB (fL fl) fNil) r = .ok (.bl (g (xs.map v))) := by
  have e : xs.map (fun x => D.bl (v x)) = (xs.map v).map D.bl := by rw [List.map_map]; rfl
  rw [e] at h
  rw [x_fCallB, x_fConsB, x_fL, h]
  show allD g r [.lst ((xs.map v).map D.bl)] = _
  rw [x_allD, boolsOf_map]
theorem all_map_id {α : Type} (xs : List α) (v : α → Bool) (h : ∀ x ∈ xs, v x = true) : (xs.map v).all id = true := by
  rw [List.all_map, List.all_eq_true]
  exact fun x hx => h x hx
theorem any_map_id {α : Type} (xs : List α) (v : α → Bool) (h : ∀ x ∈ xs, v x = false) : (xs.map v).any id = false := by
  rw [List.any_map, List.any_eq_false]
  intro x hx
  simp [h x hx]
theorem F_isstand {st : List Int} (h1 : 1 ≤ st.length) (h4 : st.length ≤ 4) (hr : ∀ i ∈ st, -999 ≤ i ∧ i ≤ 999) : F_is_stand [.tup (st.map .int)] = .ok (.bl true) := by
  have g : fLc [1] (.nm 1) (fIt true (fVar 0)) (fun _ => .ok true) (fCall 3 F_is_whole (fCons (fVar 1) (fCons (fBin subI (fK (.int 0)) (fK d_FARTHEST)) (fCons (fK d_FARTHEST) fNil)))) [.im (.tup (st.map .int)), .un] = .ok (st.map fun i => D.bl (decide (-999 ≤ i ∧ i ≤ 999))) := by
    refine fLc_ok (X := st.map .int) rfl (by simp; omega) ?_
    refine lcGo_all (t := .nm 1) D.int (fun i => D.bl (decide (-999 ≤ i ∧ i ≤ 999))) st fun i hi => ⟨[.im (.tup (st.map .int)), .im (.int i)], by simp, ?_, rfl⟩
    have e := F_iswhole i (-999) 999
    simp [d_FARTHEST, e]
  have a := allD_ok (fun bs => bs.all id) st (fun i => decide (-999 ≤ i ∧ i ≤ 999)) g
  rw [all_map_id st _ (fun i hi => decide_eq_true (hr i hi))] at a
  have h1' : (1 : Int) ≤ st.length := by omega
  have h4' : (st.length : Int) ≤ 4 := by omega
  refine run_rt (r0 := [.im (.tup (st.map .int)), .un]) rfl ?_
  refine seq_go (if_skip (by simp [h1', h4'])) ?_
  rw [x_fRet, a]
  rfl
theorem adj {α : Type} {P : α → α → Prop} : ∀ {l : List α}, l.Pairwise P → ∀ x ∈ l.zip (l.drop 1), P x.1 x.2
  | [], _, x, hx => by simp at hx
  | [a], _, x, hx => by simp at hx
  | a :: b :: l, h, x, hx => by
    have hx' : x ∈ (a, b) :: (b :: l).zip ((b :: l).drop 1) := hx
    rcases List.mem_cons.mp hx' with e | e
    · rw [e]
      exact (List.pairwise_cons.mp h).1 b List.mem_cons_self
    · exact adj (List.pairwise_cons.mp h).2 x e
theorem zip_pD (b c : Bk) : List.zipWith pairD (b.map pD) (c.map pD) = (b.zip c).map fun x => pairD (pD x.1) (pD x.2) := by
  induction b generalizing c with
  | nil => rfl
  | cons p b ih =>
    cases c with
    | nil => rfl
    | cons q c => simp [ih c]
theorem F_isbook {m : Nat} {b : Bk} (h : Bok m b) : F_is_book [bkD b] = .ok (.bl true) := by
  have h1 := h.l1
  have h6 := h.l6
  have m1 := h.m1
  have m4 := h.m4
  have h1' : (1 : Int) ≤ b.length := by omega
  have h6' : (b.length : Int) ≤ 6 := by omega
  have g1 : fLc [1] (.nm 1) (fIt true (fVar 0)) (fun _ => .ok true) (fAndV (fIsi ["tuple"] (fVar 1)) (fAndV (fBin eqD (fCallB lenD (fConsB (fVar 1) fNil)) (fK (.int 2))) (fAndV (fCall 1 F_is_name (fCons (fBin ixD (fVar 1) (fK (.int 0))) fNil)) (fCall 1 F_is_stand (fCons (fBin ixD (fVar 1) (fK (.int 1))) fNil))))) [.im (bkD b), .un, .un] = .ok (b.map fun p => D.bl true) := by
    refine fLc_ok (X := b.map pD) rfl (by simp; omega) ?_
    refine lcGo_all (t := .nm 1) pD (fun _ => D.bl true) b fun p hp => ⟨[.im (bkD b), .im (pD p), .un], by simp, ?_, rfl⟩
    have e1 := nm_name (h.nm p hp)
    have e2 := F_isstand (st := p.2) (by rw [h.ln p hp]; exact m1) (by rw [h.ln p hp]; exact m4) (h.rg p hp)
    simp [pD, e1, e2]
  obtain ⟨p0, b0, hb0⟩ : ∃ p0 b0, b = p0 :: b0 := by
    cases b with
    | nil => simp at h1
    | cons p0 b0 => exact ⟨p0, b0, rfl⟩
  have hp0 : p0 ∈ b := by rw [hb0]; exact List.mem_cons_self
  have i0 : ∀ r, ixD r (bkD b) (.int 0) = .ok (pD p0) := fun r => by rw [hb0]; simp [bkD]
  have g2 : fLc [1] (.nm 1) (fIt true (fVar 0)) (fun _ => .ok true) (fBin neD (fCallB lenD (fConsB (fBin ixD (fVar 1) (fK (.int 1))) fNil)) (fCallB lenD (fConsB (fBin ixD (fBin ixD (fVar 0) (fK (.int 0))) (fK (.int 1))) fNil))) [.im (bkD b), .un, .un] = .ok (b.map fun p => D.bl false) := by
    refine fLc_ok (X := b.map pD) rfl (by simp; omega) ?_
    refine lcGo_all (t := .nm 1) pD (fun _ => D.bl false) b fun p hp => ⟨[.im (bkD b), .im (pD p), .un], by simp, ?_, rfl⟩
    simp [i0]
    simp [pD, h.ln p hp, h.ln p0 hp0]
  have g3 : fLc [1, 2] (.tp [(.nm 1), (.nm 2)]) (fZip true (fConsB (fVar 0) (fConsB (fSl (fVar 0) (fun r => ((fK (.int 1)) r).bnd intOf) (fun _ => .ok none)) fNil))) (fun _ => .ok true) (fBin ltD (fBin ixD (fVar 1) (fK (.int 0))) (fBin ixD (fVar 2) (fK (.int 0)))) [.im (bkD b), .un, .un] = .ok ((b.zip (b.drop 1)).map fun x => D.bl (strLt x.1.1 x.2.1)) := by
    refine fLc_ok (X := (b.zip (b.drop 1)).map fun x => pairD (pD x.1) (pD x.2)) ?_ (by simp; omega) ?_
    · have c := cut_drop (b.map pD) 1 (by simp; omega)
      have c' : cut (b.map pD) (some 1) none = (b.drop 1).map pD := by rw [List.map_drop]; exact c
      have s1 : fSl (fVar 0) (fun r => ((fK (.int 1)) r).bnd intOf) (fun _ => .ok none) [.im (bkD b), .un, .un] = .ok (.tup ((b.drop 1).map pD)) := by
        simp [bkD, c']
      rw [← zip_pD, x_fZip, x_fConsB, x_fConsB, s1]
      rfl
    · refine lcGo_all (t := .tp [(.nm 1), (.nm 2)]) (fun x : (Str × List Int) × (Str × List Int) => pairD (pD x.1) (pD x.2)) (fun x => D.bl (strLt x.1.1 x.2.1)) (b.zip (b.drop 1)) fun x hx => ⟨[.im (bkD b), .im (pD x.1), .im (pD x.2)], by simp [pairD], ?_, rfl⟩
      simp [pD, ltD]
  have a1 := allD_ok (fun bs => bs.all id) b (fun _ => true) g1
  rw [all_map_id b _ (fun _ _ => rfl)] at a1
  have a2 := allD_ok (fun bs => bs.any id) b (fun _ => false) g2
  rw [any_map_id b _ (fun _ _ => rfl)] at a2
  have a3 := allD_ok (fun bs => bs.all id) (b.zip (b.drop 1)) (fun x => strLt x.1.1 x.2.1) g3
  rw [all_map_id _ _ (adj h.srt)] at a3
  refine run_rt (r0 := [.im (bkD b), .un, .un]) rfl ?_
  refine seq_go (if_skip (by simp [bkD, h1', h6'])) ?_
  refine seq_go (if_skip ?_) ?_
  · rw [x_fNot, x_fTest, a1]; rfl
  refine seq_go (if_skip ?_) ?_
  · rw [x_fTest, a2]; rfl
  rw [x_fRet, a3]
  rfl
theorem F_lookbook {m : Nat} {b : Bk} (h : Bok m b) : F_look_book [bkD b] = .ok .non := by
  have e := F_isbook h
  have e2 : imD (bkD b) = .ok (bkD b) := rfl
  simp only [F_look_book, x_runF, B_look_book]
  simp [e, e2]
end PL
end
section
namespace PL
open PySem PySem.Spec PyProof.Rows L2 PL.G
theorem neD_nil {r : Rho} {ds : List D} {n : Nat} (h : Dep n (.lst ds)) (hn : n ≤ 64) : neD r (.lst ds) (.lst []) = .ok (.bl (!ds.isEmpty)) := by
  unfold neD
  rw [pyT_of rfl, pyT_of rfl, h.shaped hn, (dep_lst (n := 0) (ds := []) (by simp)).shaped (by decide)]
  cases ds <;> simp [py, pys, PyData.eqv, PyData.eqvAll]
def enl : Nat → List Str → List (Nat × Str)
  | _, [] => []
  | n, x :: xs => (n, x) :: enl (n + 1) xs
def enD (x : Nat × Str) : D := .tup [.int (x.1 : Nat), .str x.2]
theorem enl_enum : ∀ (n : Nat) (xs : List Str), enumFrom n (xs.map .str) = (enl n xs).map enD
  | _, [] => rfl
  | n, x :: xs => by
    show D.tup [.int n, .str x] :: enumFrom (n + 1) (xs.map .str) = enD (n, x) :: (enl (n + 1) xs).map enD
    rw [enl_enum]; rfl
theorem enl_snd : ∀ (n : Nat) (xs : List Str), (enl n xs).map (·.2) = xs
  | _, [] => rfl
  | n, x :: xs => by
    show x :: (enl (n + 1) xs).map (·.2) = x :: xs
    rw [enl_snd]
theorem enl_len (n : Nat) (xs : List Str) : (enl n xs).length = xs.length := by
  have := congrArg List.length (enl_snd n xs)
  simpa using this
noncomputable def bTop (ns : List Int) (at' : Int) (k : Nat) : Int := if pk ns (at' + 10 + k) 3 = 0 then 3 else if pk ns (at' + 10 + k) 3 = 1 then 20 else 1000
noncomputable def bStand (ns : List Int) (at' : Int) (m k : Nat) : List Int := (List.range m).map fun (j : Nat) => pk ns (at' + 20 + 4 * k + j) (2 * bTop ns at' k - 1) - bTop ns at' k + 1
noncomputable def bNames (ns : List Int) (at' : Int) : List Str := ((enl 0 lawNames).filter fun x => decide (0 < pk ns (at' + 1 + x.1) 3)).map (·.2)
noncomputable def bNames2 (ns : List Int) (at' : Int) : List Str := if bNames ns at' = [] then [Str.ofString "sole"] else bNames ns at'
noncomputable def bBook (ns : List Int) (at' : Int) (m : Nat) : Bk := (enl 0 (bNames2 ns at')).map fun x => (x.2, bStand ns at' m x.1)
theorem bTop_cases (ns : List Int) (at' : Int) (k : Nat) : bTop ns at' k = 3 ∨ bTop ns at' k = 20 ∨ bTop ns at' k = 1000 := by
  unfold bTop
  split
  · exact .inl rfl
  · split
    · exact .inr (.inl rfl)
    · exact .inr (.inr rfl)
theorem bNames_sub (ns : List Int) (at' : Int) : (bNames ns at').Sublist lawNames := by
  have h := (List.filter_sublist (l := enl 0 lawNames) (p := fun x => decide (0 < pk ns (at' + 1 + x.1) 3))).map (·.2)
  rw [enl_snd] at h
  exact h
theorem bNames2_nm0 (ns : List Int) (at' : Int) : ∀ x ∈ bNames2 ns at', Nm0 x := by
  unfold bNames2
  split
  · exact fun x hx => .inr (List.mem_singleton.mp hx)
  · exact fun x hx => .inl ((bNames_sub ns at').subset hx)
theorem bNames2_ok (ns : List Int) (at' : Int) : (bNames2 ns at').Pairwise (fun a b => strLt a b = true) ∧ (∀ x ∈ bNames2 ns at', Nm x) ∧ 1 ≤ (bNames2 ns at').length ∧ (bNames2 ns at').length ≤ 6 := by
  unfold bNames2
  split
  · exact ⟨by simp, fun x hx => nm0_nm (.inr (List.mem_singleton.mp hx)), by simp, by simp⟩
  · rename_i h
    have s := bNames_sub ns at'
    refine ⟨lawNames_sorted.sublist s, fun x hx => nm0_nm (.inl (s.subset hx)), ?_, s.length_le⟩
    cases e : bNames ns at' with
    | nil => exact absurd e h
    | cons _ _ => simp
theorem bBook_ok (ns : List Int) (at' : Int) (m : Nat) (h0 : 0 ≤ at') (h1 : 1 ≤ m) (h4 : m ≤ 4) : Bok m (bBook ns at' m) := by
  obtain ⟨a, b, c, d⟩ := bNames2_ok ns at'
  have hf : (bBook ns at' m).map (·.1) = bNames2 ns at' := by
    unfold bBook
    rw [List.map_map]
    exact enl_snd 0 _
  have hlen : (bBook ns at' m).length = (bNames2 ns at').length := by
    rw [← hf, List.length_map]
  refine ⟨h1, h4, by omega, by omega, fun p hp => ?_, fun p hp => ?_, fun p hp i hi => ?_, ?_⟩
  · exact b _ (by rw [← hf]; exact List.mem_map_of_mem hp)
  · obtain ⟨x, _, rfl⟩ := List.mem_map.mp hp
    simp [bStand]
  · obtain ⟨x, _, rfl⟩ := List.mem_map.mp hp
    obtain ⟨j, _, rfl⟩ := List.mem_map.mp hi
    have ht := bTop_cases ns at' x.1
    have q := pick_ok ns (at' + 20 + 4 * x.1 + j) (2 * bTop ns at' x.1 - 1) (by omega) (by omega)
    omega
  · rw [← hf] at a
    exact List.pairwise_map.mp a
noncomputable abbrev bkB : Rho → R Fl := (fSeq (fAsg (.nm 8) (fBin ixD (fL (fLst (fCons (fK (.int 3)) (fCons (fK (.int 20)) (fCons (fK (.int 1000)) fNil))))) (fCall 3 F_u_law_pick (fCons (fVar 0) (fCons (fBin addD (fBin addD (fVar 1) (fK (.int 10))) (fVar 6)) (fCons (fK (.int 3)) fNil))))))
    (fSeq (fAsg (.nm 9) (fBin addD (fBin addD (fVar 1) (fK (.int 20))) (fBin mulD (fK (.int 4)) (fVar 6))))
    (fApp 5 (fTup (fCons (fVar 7) (fCons (fCallB tupleD (fConsB (fL (fLc [10] (.nm 10) (fRg rangeD1 (fCons (fVar 2) fNil)) (fun _ => .ok true) (fBin addD (fBin subI (fCall 3 F_u_law_pick (fCons (fVar 0) (fCons (fBin addD (fVar 9) (fVar 10)) (fCons (fBin subI (fBin mulD (fK (.int 2)) (fVar 8)) (fK (.int 1))) fNil)))) (fVar 8)) (fK (.int 1))))) fNil)) fNil))))))
theorem bk_body {ns : List Int} {at' : Int} {m : Nat} {S N : D} {made : Bk} {x8 x9 : Sl} {x : Nat × Str} (h0 : 0 ≤ at') (hm : m ≤ 4) (hl : made.length ≤ 1000) :
    bkB [.im (.scr ns), .im (.int at'), .im (.int m), .im S, .im N, .ol (made.map pD), .im (.int x.1), .im (.str x.2), x8, x9, .un] = .ok (.nx [.im (.scr ns), .im (.int at'), .im (.int m), .im S, .im N, .ol ((made ++ [(x.2, bStand ns at' m x.1)]).map pD), .im (.int x.1), .im (.str x.2), .im (.int (bTop ns at' x.1)), .im (.int (at' + 20 + 4 * x.1)), .un]) := by
  obtain ⟨p1, p2, p3⟩ := pick_ok ns (at' + 10 + x.1) 3 (by omega) (by omega)
  have ht := bTop_cases ns at' x.1
  refine seq_go (r' := [.im (.scr ns), .im (.int at'), .im (.int m), .im S, .im N, .ol (made.map pD), .im (.int x.1), .im (.str x.2), .im (.int (bTop ns at' x.1)), x9, .un]) (asg_to (d := .int (bTop ns at' x.1)) ?_ rfl (by simp) rfl) ?_
  · have hp : pk ns (at' + 10 + x.1) 3 = 0 ∨ pk ns (at' + 10 + x.1) 3 = 1 ∨ pk ns (at' + 10 + x.1) 3 = 2 := by omega
    unfold bTop
    rcases hp with hp | hp | hp
    · rw [hp] at p1 ⊢; simp [p1]
    · rw [hp] at p1 ⊢; simp [p1]
    · rw [hp] at p1 ⊢; simp [p1]
  have mm : mulB 4 x.1 = true := mulB_l (by decide) (by decide)
  refine seq_go (r' := [.im (.scr ns), .im (.int at'), .im (.int m), .im S, .im N, .ol (made.map pD), .im (.int x.1), .im (.str x.2), .im (.int (bTop ns at' x.1)), .im (.int (at' + 20 + 4 * x.1)), .un]) (asg_to (d := .int (at' + 20 + 4 * x.1)) (by simp [mm]) rfl (by simp) rfl) ?_
  have l := lc_range (i := 10) (n := m) (r := [.im (.scr ns), .im (.int at'), .im (.int m), .im S, .im N, .ol (made.map pD), .im (.int x.1), .im (.str x.2), .im (.int (bTop ns at' x.1)), .im (.int (at' + 20 + 4 * x.1)), .un]) (fi := fVar 2)
    (fe := (fBin addD (fBin subI (fCall 3 F_u_law_pick (fCons (fVar 0) (fCons (fBin addD (fVar 9) (fVar 10)) (fCons (fBin subI (fBin mulD (fK (.int 2)) (fVar 8)) (fK (.int 1))) fNil)))) (fVar 8)) (fK (.int 1))))
    (fun j => .int (pk ns (at' + 20 + 4 * x.1 + j) (2 * bTop ns at' x.1 - 1) - bTop ns at' x.1 + 1)) (by omega) rfl (by simp) (fun j hj => ⟨by
      have q := (pick_ok ns (at' + 20 + 4 * x.1 + j) (2 * bTop ns at' x.1 - 1) (by omega) (by omega)).1
      have m2 : mulB 2 (bTop ns at' x.1) = true := mulB_l (by decide) (by decide)
      simp [q, m2], rfl⟩)
  have e : (List.range m).map (fun (j : Nat) => D.int (pk ns (at' + 20 + 4 * x.1 + j) (2 * bTop ns at' x.1 - 1) - bTop ns at' x.1 + 1)) = (bStand ns at' m x.1).map .int := by
    unfold bStand; rw [List.map_map]; rfl
  rw [e] at l
  have t := tup_of l
  have z : made.length < sizeLine := sz_lt' (by omega)
  rw [x_fApp]
  simp only [List.getElem?_cons_succ, List.getElem?_cons_zero, x_fTup, x_fCons, x_fVar, bnd_ok, x_imD_str, t, x_imD_tup, x_fNil, x_szD]
  simp [z, pD]
theorem law_bookN (ns : List Int) (at' : Int) (h0 : 0 ≤ at') : ∃ m b, Bok m b ∧ (∀ p ∈ b, Nm0 p.1) ∧ F_u_law_book [.scr ns, .int at'] = .ok (bkD b) := by
  obtain ⟨p1, p1a, p1b⟩ := pick_ok ns at' 4 h0 (by omega)
  obtain ⟨m, hmE, hm1, hm⟩ : ∃ m : Nat, 1 + pk ns at' 4 = m ∧ 1 ≤ m ∧ m ≤ 4 := ⟨(1 + pk ns at' 4).toNat, by omega, by omega, by omega⟩
  refine ⟨m, bBook ns at' m, bBook_ok ns at' m h0 hm1 hm, fun p hp => by
    have hf : (bBook ns at' m).map (·.1) = bNames2 ns at' := by
      unfold bBook
      rw [List.map_map]
      exact enl_snd 0 _
    exact bNames2_nm0 ns at' _ (hf ▸ List.mem_map.mpr ⟨p, hp, rfl⟩), ?_⟩
  refine run_rt (r0 := [.im (.scr ns), .im (.int at'), .un, .un, .un, .un, .un, .un, .un, .un, .un]) rfl ?_
  refine seq_go (r' := [.im (.scr ns), .im (.int at'), .im (.int m), .un, .un, .un, .un, .un, .un, .un, .un]) (asg_to (d := .int m) (by simp [p1, hmE]) rfl (by simp) rfl) ?_
  have sz6 : 6 ≤ sizeLine := sz_le (by decide)
  refine seq_go (r' := [.im (.scr ns), .im (.int at'), .im (.int m), .im (.lst (lawNames.map .str)), .un, .un, .un, .un, .un, .un, .un]) (asg_to (d := .lst (lawNames.map .str)) (by simp [sz6, lawNames]) rfl (by simp) rfl) ?_
  have l : fLc [6, 7] (.tp [(.nm 6), (.nm 7)]) (fEnum true (fConsB (fVar 3) fNil)) (fTest (fBin gtI (fCall 3 F_u_law_pick (fCons (fVar 0) (fCons (fBin addD (fBin addD (fVar 1) (fK (.int 1))) (fVar 6)) (fCons (fK (.int 3)) fNil)))) (fK (.int 0)))) (fVar 7) [.im (.scr ns), .im (.int at'), .im (.int m), .im (.lst (lawNames.map .str)), .un, .un, .un, .un, .un, .un, .un] = .ok ((bNames ns at').map .str) := by
    refine fLc_ok (X := (enl 0 lawNames).map enD) ?_ (by simp [enl_len, lawNames]) ?_
    · rw [← enl_enum]; rfl
    · have q := lcGo_typed (t := .tp [(.nm 6), (.nm 7)]) (ft := fTest (fBin gtI (fCall 3 F_u_law_pick (fCons (fVar 0) (fCons (fBin addD (fBin addD (fVar 1) (fK (.int 1))) (fVar 6)) (fCons (fK (.int 3)) fNil)))) (fK (.int 0)))) (fe := fVar 7) (r := wipeR [.im (.scr ns), .im (.int at'), .im (.int m), .im (.lst (lawNames.map .str)), .un, .un, .un, .un, .un, .un, .un] [6, 7]) enD (fun x => decide (0 < pk ns (at' + 1 + x.1) 3)) (fun x => .str x.2) (enl 0 lawNames) (fun x hx => ⟨[.im (.scr ns), .im (.int at'), .im (.int m), .im (.lst (lawNames.map .str)), .un, .un, .im (.int x.1), .im (.str x.2), .un, .un, .un], by simp [enD], by
          have e := (pick_ok ns (at' + 1 + x.1) 3 (by omega) (by omega)).1
          simp [e], fun _ => ⟨by simp, rfl⟩⟩)
      rw [q]
      unfold bNames
      rw [List.map_map]; rfl
  refine seq_go (r' := [.im (.scr ns), .im (.int at'), .im (.int m), .im (.lst (lawNames.map .str)), .im (.lst ((bNames ns at').map .str)), .un, .un, .un, .un, .un, .un]) (asg_to (fL_of l) rfl (by simp) rfl) ?_
  refine seq_go (r' := [.im (.scr ns), .im (.int at'), .im (.int m), .im (.lst (lawNames.map .str)), .im (.lst ((bNames ns at').map .str)), .ol [], .un, .un, .un, .un, .un]) (by simp) ?_
  have hd : Dep 1 (.lst ((bNames ns at').map .str)) := dep_lst (n := 0) fun d hd => by
    obtain ⟨x, hx, rfl⟩ := List.mem_map.mp hd
    exact dep_str 0 (nm_ok (nm0_nm (.inl ((bNames_sub ns at').subset hx))))
  have en : fEnum false (fConsB (fIf (fTest (fBin neD (fVar 4) (fL (fLst fNil)))) (fVar 4) (fL (fLst (fCons (fK (.str (Str.ofString "sole"))) fNil)))) fNil) [.im (.scr ns), .im (.int at'), .im (.int m), .im (.lst (lawNames.map .str)), .im (.lst ((bNames ns at').map .str)), .ol [], .un, .un, .un, .un, .un] = .ok ((enl 0 (bNames2 ns at')).map enD) := by
    have e := fun r => neD_nil (r := r) hd (by decide)
    rw [← enl_enum]
    unfold bNames2
    cases hb : bNames ns at' with
    | nil =>
      rw [hb] at e
      simp at e
      simp [e, enumD, viewB]
    | cons x xs =>
      rw [hb] at e
      simp at e
      simp [e, enumD, viewB]
  have len6 := (bNames2_ok ns at').2.2.2
  have fo := forGo_fold (t := .tp [(.nm 6), (.nm 7)]) (fb := bkB) enD (fun s : Bk × Sl × Sl × Sl × Sl => [.im (.scr ns), .im (.int at'), .im (.int m), .im (.lst (lawNames.map .str)), .im (.lst ((bNames ns at').map .str)), .ol (s.1.map pD), s.2.1, s.2.2.1, s.2.2.2.1, s.2.2.2.2, .un])
    (fun s x => (s.1 ++ [(x.2, bStand ns at' m x.1)], .im (.int x.1), .im (.str x.2), .im (.int (bTop ns at' x.1)), .im (.int (at' + 20 + 4 * x.1))))
    (fun xs s => s.1.length + xs.length ≤ 6) (enl 0 (bNames2 ns at')) ([], .un, .un, .un, .un) (by simp [enl_len]; exact len6) (fun x xs s hP => by
      rw [List.length_cons] at hP
      refine ⟨by simp; omega, [.im (.scr ns), .im (.int at'), .im (.int m), .im (.lst (lawNames.map .str)), .im (.lst ((bNames ns at').map .str)), .ol (s.1.map pD), .im (.int x.1), .im (.str x.2), s.2.2.2.1, s.2.2.2.2, .un], by simp [enD], .inl (bk_body h0 hm (by omega))⟩)
  have q2 : ∀ (xs : List (Nat × Str)) (s : Bk × Sl × Sl × Sl × Sl), (xs.foldl (fun (s : Bk × Sl × Sl × Sl × Sl) (x : Nat × Str) => (s.1 ++ [(x.2, bStand ns at' m x.1)], Sl.im (.int x.1), Sl.im (.str x.2), Sl.im (.int (bTop ns at' x.1)), Sl.im (.int (at' + 20 + 4 * x.1)))) s).1 = s.1 ++ xs.map fun x => (x.2, bStand ns at' m x.1) := fun xs => by
    induction xs with
    | nil => intro s; simp
    | cons x xs ih => intro s; rw [List.foldl_cons, ih]; simp
  rw [q2] at fo
  refine seq_go (for_go en fo) ?_
  rw [x_fRet, x_fCallB, x_fConsB]
  rfl
end PL
end
section
namespace PL
open PySem PySem.Spec PyProof.Rows L2 PL.G
theorem ret_of {f : Rho → R D} {r : Rho} {d : D} (h : f r = .ok d) (ho : outD r d = .ok d) : fRet f r = .ok (.rt d) := by
  rw [x_fRet, h, bnd_ok, ho]; rfl
theorem intsOf_map (is : List Int) : intsOf (is.map D.int) = some is := by
  induction is with
  | nil => rfl
  | cons i is ih => simp [intsOf, ih]
theorem sumD_ok (r : Rho) (is : List Int) : sumD r [.lst (is.map D.int)] = .ok (.int is.sum) := by
  show (match intsOf (is.map D.int) with
    | some bs => R.ok (D.int bs.sum)
    | none => .stuck) = _
  rw [intsOf_map]
def sumR (qs : List Rat) : Rat := qs.foldl (· + ·) 0
theorem F_summed_ok {k : Nat} {qs : List Rat} (hs : ∀ q ∈ qs, Sm k q) (hb : (k + 1) * qs.length ≤ 8000) : F_summed [.lst (qs.map fr)] = .ok (fr (sumR qs)) := by
  have fo := forGo_fold (t := .nm 2) (fb := fAsg (.nm 1) (fCall 2 F_plus (fCons (fVar 1) (fCons (fVar 2) fNil)))) fr (fun s : Rat × Sl => [.im (.lst (qs.map fr)), .im (fr s.1), s.2]) (fun s q => (s.1 + q, .im (fr q)))
    (fun xs s => (∀ q ∈ xs, Sm k q) ∧ ∃ n, Sm n s.1 ∧ n + (k + 1) * xs.length ≤ 8100) qs (0, .un) ⟨hs, 1, sm_zero, by omega⟩ (fun q xs s hP => by
      obtain ⟨p1, n, p2, p3⟩ := hP
      rw [List.length_cons, Nat.mul_succ] at p3
      have hq := p1 q List.mem_cons_self
      refine ⟨⟨fun x hx => p1 x (List.mem_cons_of_mem _ hx), n + k + 1, p2.add hq, by omega⟩, [.im (.lst (qs.map fr)), .im (fr s.1), .im (fr q)], by simp, .inl ?_⟩
      have e := F_plus_ok p2 hq (by omega)
      simp [e])
  have q2 : ∀ (xs : List Rat) (s : Rat × Sl), (xs.foldl (fun (s : Rat × Sl) (q : Rat) => (s.1 + q, Sl.im (fr q))) s).1 = xs.foldl (· + ·) s.1 := fun xs => by
    induction xs with
    | nil => intro s; rfl
    | cons x xs ih => intro s; exact ih _
  rw [q2] at fo
  refine run_rt (r0 := [.im (.lst (qs.map fr)), .un, .un]) rfl ?_
  refine seq_go (r' := [.im (.lst (qs.map fr)), .im (fr 0), .un]) rfl ?_
  refine seq_go (for_go (ds := qs.map fr) rfl fo) ?_
  rfl
def SeqOf (A : D) (xs : List D) : Prop := A = .lst xs ∨ A = .tup xs
theorem SeqOf.view {A : D} {xs : List D} (h : SeqOf A xs) (ow : Bool) (r : Rho) : ∃ b, viewB ow r A = some (b, xs) := by
  rcases h with rfl | rfl
  · exact ⟨_, rfl⟩
  · exact ⟨_, rfl⟩
theorem SeqOf.im {A : D} {xs : List D} (h : SeqOf A xs) : imD A = .ok A := by
  rcases h with rfl | rfl <;> rfl
theorem SeqOf.zip {A B : D} {xs ys : List D} (h : SeqOf A xs) (h' : SeqOf B ys) (ow : Bool) (r : Rho) : zipD ow r [A, B] = .ok (List.zipWith pairD xs ys) := by
  rcases h with rfl | rfl <;> rcases h' with rfl | rfl <;> rfl
theorem SeqOf.items {A : D} {xs : List D} (h : SeqOf A xs) (ow : Bool) (r : Rho) : itemsD ow r A = .ok xs := by
  rcases h with rfl | rfl <;> rfl
theorem SeqOf.len {A : D} {xs : List D} (h : SeqOf A xs) (r : Rho) : lenD r [A] = .ok (.int xs.length) := by
  rcases h with rfl | rfl <;> rfl
theorem seq_rt {s1 s2 : Rho → R Fl} {r : Rho} {d : D} (h : s1 r = .ok (.rt d)) : fSeq s1 s2 r = .ok (.rt d) := by
  rw [x_fSeq, h]; rfl
theorem int_sm {i : Int} {n : Nat} (h : i.natAbs < 2 ^ n) (hn : 1 ≤ n) : Sm n (i : Rat) := by
  refine ⟨by simpa using h, ?_⟩
  have : 2 ^ 1 ≤ 2 ^ n := Nat.pow_le_pow_right (by decide) hn
  simp
  omega
theorem forGo_inv {α : Type} {t : Tg} {fb : Rho → R Fl} (g : α → D) (P : List α → Rho → Prop) : ∀ (xs : List α), (∀ x ys r, P (x :: ys) r → ∃ r2 r3, setT t (g x) r = .ok r2 ∧ (fb r2 = .ok (.nx r3) ∨ fb r2 = .ok (.ct r3)) ∧ P ys r3) → ∀ r, P xs r → ∃ r', forGo t fb (xs.map g) r = .ok (.nx r') ∧ P [] r'
  | [], _, r, hr => ⟨r, rfl, hr⟩
  | x :: xs, h, r, hr => by
    obtain ⟨r2, r3, h1, h2, h3⟩ := h x xs r hr
    obtain ⟨r', h4, h5⟩ := forGo_inv g P xs h r3 h3
    refine ⟨r', ?_, h5⟩
    rw [List.map_cons, forGo, h1]
    simp only [x_noE_ok, bnd_ok]
    rcases h2 with h2 | h2
    · rw [h2]
      exact h4
    · rw [h2]
      exact h4
theorem forGo_mem {α : Type} {t : Tg} {fb : Rho → R Fl} (g : α → D) (P : Rho → Prop) (xs : List α) (h : ∀ x ∈ xs, ∀ r, P r → ∃ r2 r3, setT t (g x) r = .ok r2 ∧ (fb r2 = .ok (.nx r3) ∨ fb r2 = .ok (.ct r3)) ∧ P r3) (r : Rho) (hr : P r) : ∃ r', forGo t fb (xs.map g) r = .ok (.nx r') ∧ P r' := by
  obtain ⟨r', h1, h2⟩ := forGo_inv (t := t) (fb := fb) g (fun ys r => (∀ y ∈ ys, y ∈ xs) ∧ P r) xs (fun x ys r hP => by
    obtain ⟨r2, r3, q1, q2, q3⟩ := h x (hP.1 x List.mem_cons_self) r hP.2
    exact ⟨r2, r3, q1, q2, fun y hy => hP.1 y (List.mem_cons_of_mem _ hy), q3⟩) r ⟨fun y hy => hy, hr⟩
  exact ⟨r', h1, h2.2⟩
end PL
end
section
namespace PL
open PySem PySem.Spec PyProof.Rows L2 PL.G
def isFrD : D → Bool
  | .tup [.int a, .int b] => decide (0 < b) && a.gcd b == 1
  | _ => false
theorem Lv.cases2 {w n : Nat} {d : D} (h : Lv w n d) : d = .non ∨ (∃ b, d = .bl b) ∨ (∃ i, d = .int i ∧ i.natAbs < 2 ^ 64) ∨ (∃ x, d = .str x ∧ PyData.strOk x = true ∧ x.length ≤ 100) ∨ ∃ ds, d = .tup ds ∧ ds.length ≤ w ∧ ∃ m, n = m + 1 ∧ ∀ x ∈ ds, Lv w m x := by
  cases h with
  | non n => exact .inl rfl
  | bl n b => exact .inr (.inl ⟨b, rfl⟩)
  | int n i h => exact .inr (.inr (.inl ⟨i, rfl, h⟩))
  | str n x h1 h2 => exact .inr (.inr (.inr (.inl ⟨x, rfl, h1, h2⟩)))
  | tup n ds h1 h2 => exact .inr (.inr (.inr (.inr ⟨ds, rfl, h1, n, rfl, h2⟩)))
@[simp] theorem ty_non (t : String) : isTy .non t = false := rfl
@[simp] theorem ty_bl (b : Bool) (t : String) : isTy (.bl b) t = (t == "bool" || t == "int") := rfl
@[simp] theorem ty_int (i : Int) (t : String) : isTy (.int i) t = (t == "int") := rfl
@[simp] theorem ty_str (x : Str) (t : String) : isTy (.str x) t = (t == "str") := rfl
@[simp] theorem ty_tup (ds : List D) (t : String) : isTy (.tup ds) t = (t == "tuple") := rfl
@[simp] theorem ty_lst (ds : List D) (t : String) : isTy (.lst ds) t = (t == "list") := rfl
theorem Lv.tupOr {w n : Nat} {d : D} (h : Lv w n d) : (isTy d "tuple" = false ∧ ∀ ds, d ≠ .tup ds) ∨ ∃ ds, d = .tup ds ∧ ds.length ≤ w ∧ ∃ m, n = m + 1 ∧ ∀ x ∈ ds, Lv w m x := by
  rcases h.cases2 with rfl | ⟨b, rfl⟩ | ⟨i, rfl, _⟩ | ⟨x, rfl, _⟩ | ⟨ds, rfl, q⟩
  · exact .inl ⟨rfl, fun _ z => by cases z⟩
  · exact .inl ⟨rfl, fun _ z => by cases z⟩
  · exact .inl ⟨rfl, fun _ z => by cases z⟩
  · exact .inl ⟨rfl, fun _ z => by cases z⟩
  · exact .inr ⟨ds, rfl, q⟩
theorem gcd_one (i j : Int) : (((i.gcd j : Nat) : Int) == 1) = (i.gcd j == 1) := by
  by_cases h : i.gcd j = 1
  · simp [h]
  · have h2 : ((i.gcd j : Nat) : Int) ≠ 1 := by omega
    rw [beq_eq_false_iff_ne.mpr h, beq_eq_false_iff_ne.mpr h2]
theorem F_isfrD {w n : Nat} {d : D} (h : Lv w n d) : F_is_fraction [d] = .ok (.bl (isFrD d)) := by
  rcases h.cases2 with rfl | ⟨b, rfl⟩ | ⟨i, rfl, hi⟩ | ⟨x, rfl, _⟩ | ⟨ds, rfl, _, m, rfl, hd⟩
  · simp [F_is_fraction, x_runF, B_is_fraction, isFrD]
  · simp [F_is_fraction, x_runF, B_is_fraction, isFrD]
  · simp [F_is_fraction, x_runF, B_is_fraction, isFrD]
  · simp [F_is_fraction, x_runF, B_is_fraction, isFrD]
  · match ds, hd with
    | [], _ => simp [F_is_fraction, x_runF, B_is_fraction, isFrD]
    | [_], _ => simp [F_is_fraction, x_runF, B_is_fraction, isFrD]
    | _ :: _ :: c :: ds, _ =>
      have e : ((ds.length : Int) + 1 + 1 + 1 == 2) = false := by
        have : (ds.length : Int) + 1 + 1 + 1 ≠ 2 := by omega
        simpa using this
      simp [F_is_fraction, x_runF, B_is_fraction, isFrD, e]
    | [x, y], hd =>
      have hx := hd x (by simp)
      have hy := hd y (by simp)
      rcases hx.cases2 with rfl | ⟨b, rfl⟩ | ⟨i, rfl, hi⟩ | ⟨z, rfl, _⟩ | ⟨ds, rfl, _⟩ <;> rcases hy.cases2 with rfl | ⟨b2, rfl⟩ | ⟨j, rfl, hj⟩ | ⟨z2, rfl, _⟩ | ⟨ds2, rfl, _⟩ <;>
        simp [F_is_fraction, x_runF, B_is_fraction, isFrD, lcGo, boolsOf]
      by_cases hp : 0 < j
      · simp [hp, gcd_one]
      · simp [hp]
theorem str_eqv (a b : Str) : (a == b) = decide (a = b) := by
  by_cases h : a = b
  · subst h; simp
  · simp [h]
end PL
end
section
namespace PL
open PySem PySem.Spec PyProof.Rows L2 PL.G
theorem forGo_check {α : Type} {t : Tg} {fb : Rho → R Fl} (g : α → D) (P : α → Bool) (I : Rho → Prop) (d : D) : ∀ (xs : List α), (∀ x ∈ xs, ∀ r, I r → ∃ r2, setT t (g x) r = .ok r2 ∧ ((P x = true ∧ ∃ r3, fb r2 = .ok (.nx r3) ∧ I r3) ∨ (P x = false ∧ fb r2 = .ok (.rt d)))) → ∀ r, I r →
    (xs.all P = true ∧ ∃ r', forGo t fb (xs.map g) r = .ok (.nx r') ∧ I r') ∨ (xs.all P = false ∧ forGo t fb (xs.map g) r = .ok (.rt d))
  | [], _, r, hr => .inl ⟨rfl, r, rfl, hr⟩
  | x :: xs, h, r, hr => by
    obtain ⟨r2, h1, h2⟩ := h x List.mem_cons_self r hr
    rw [List.map_cons, forGo, h1]
    simp only [x_noE_ok, bnd_ok]
    rcases h2 with ⟨hp, r3, h3, h4⟩ | ⟨hp, h3⟩
    · rw [h3, List.all_cons, hp]
      simp only [bnd_ok, Bool.true_and]
      exact forGo_check g P I d xs (fun y hy => h y (List.mem_cons_of_mem _ hy)) r3 h4
    · rw [h3, List.all_cons, hp]
      exact .inr ⟨rfl, rfl⟩
end PL
end
section
namespace PL
open PySem PySem.Spec PyProof.Rows L2 PL.G
@[simp] theorem sle5 : 5 ≤ sizeLine := sz_le (by decide)
@[simp] theorem slt_5 : 5 < sizeLine := sz_lt' (by decide)
@[simp] theorem sle6 : 6 ≤ sizeLine := sz_le (by decide)
@[simp] theorem slt_6 : 6 < sizeLine := sz_lt' (by decide)
@[simp] theorem sle7 : 7 ≤ sizeLine := sz_le (by decide)
@[simp] theorem slt_7 : 7 < sizeLine := sz_lt' (by decide)
@[simp] theorem sle8 : 8 ≤ sizeLine := sz_le (by decide)
@[simp] theorem slt_8 : 8 < sizeLine := sz_lt' (by decide)
@[simp] theorem sle9 : 9 ≤ sizeLine := sz_le (by decide)
@[simp] theorem slt_9 : 9 < sizeLine := sz_lt' (by decide)
@[simp] theorem sle10 : 10 ≤ sizeLine := sz_le (by decide)
@[simp] theorem slt_10 : 10 < sizeLine := sz_lt' (by decide)
@[simp] theorem sle11 : 11 ≤ sizeLine := sz_le (by decide)
@[simp] theorem slt_11 : 11 < sizeLine := sz_lt' (by decide)
@[simp] theorem sle12 : 12 ≤ sizeLine := sz_le (by decide)
@[simp] theorem slt_12 : 12 < sizeLine := sz_lt' (by decide)
@[simp] theorem sle13 : 13 ≤ sizeLine := sz_le (by decide)
@[simp] theorem slt_13 : 13 < sizeLine := sz_lt' (by decide)
@[simp] theorem sle14 : 14 ≤ sizeLine := sz_le (by decide)
@[simp] theorem slt_14 : 14 < sizeLine := sz_lt' (by decide)
@[simp] theorem sle15 : 15 ≤ sizeLine := sz_le (by decide)
@[simp] theorem slt_15 : 15 < sizeLine := sz_lt' (by decide)
@[simp] theorem sle16 : 16 ≤ sizeLine := sz_le (by decide)
@[simp] theorem slt_16 : 16 < sizeLine := sz_lt' (by decide)
@[simp] theorem sle17 : 17 ≤ sizeLine := sz_le (by decide)
@[simp] theorem slt_17 : 17 < sizeLine := sz_lt' (by decide)
@[simp] theorem sle18 : 18 ≤ sizeLine := sz_le (by decide)
@[simp] theorem slt_18 : 18 < sizeLine := sz_lt' (by decide)
@[simp] theorem sle19 : 19 ≤ sizeLine := sz_le (by decide)
@[simp] theorem slt_19 : 19 < sizeLine := sz_lt' (by decide)
@[simp] theorem sle20 : 20 ≤ sizeLine := sz_le (by decide)
@[simp] theorem slt_20 : 20 < sizeLine := sz_lt' (by decide)
@[simp] theorem sle21 : 21 ≤ sizeLine := sz_le (by decide)
@[simp] theorem slt_21 : 21 < sizeLine := sz_lt' (by decide)
@[simp] theorem sle22 : 22 ≤ sizeLine := sz_le (by decide)
@[simp] theorem slt_22 : 22 < sizeLine := sz_lt' (by decide)
@[simp] theorem sle23 : 23 ≤ sizeLine := sz_le (by decide)
@[simp] theorem slt_23 : 23 < sizeLine := sz_lt' (by decide)
@[simp] theorem sle24 : 24 ≤ sizeLine := sz_le (by decide)
@[simp] theorem slt_24 : 24 < sizeLine := sz_lt' (by decide)
@[simp] theorem sle25 : 25 ≤ sizeLine := sz_le (by decide)
@[simp] theorem slt_25 : 25 < sizeLine := sz_lt' (by decide)
@[simp] theorem sle26 : 26 ≤ sizeLine := sz_le (by decide)
@[simp] theorem slt_26 : 26 < sizeLine := sz_lt' (by decide)
@[simp] theorem sle27 : 27 ≤ sizeLine := sz_le (by decide)
@[simp] theorem slt_27 : 27 < sizeLine := sz_lt' (by decide)
@[simp] theorem sle28 : 28 ≤ sizeLine := sz_le (by decide)
@[simp] theorem slt_28 : 28 < sizeLine := sz_lt' (by decide)
@[simp] theorem sle29 : 29 ≤ sizeLine := sz_le (by decide)
@[simp] theorem slt_29 : 29 < sizeLine := sz_lt' (by decide)
@[simp] theorem sle30 : 30 ≤ sizeLine := sz_le (by decide)
@[simp] theorem slt_30 : 30 < sizeLine := sz_lt' (by decide)
@[simp] theorem sle31 : 31 ≤ sizeLine := sz_le (by decide)
@[simp] theorem slt_31 : 31 < sizeLine := sz_lt' (by decide)
@[simp] theorem sle32 : 32 ≤ sizeLine := sz_le (by decide)
@[simp] theorem slt_32 : 32 < sizeLine := sz_lt' (by decide)
@[simp] theorem sle33 : 33 ≤ sizeLine := sz_le (by decide)
@[simp] theorem slt_33 : 33 < sizeLine := sz_lt' (by decide)
@[simp] theorem sle34 : 34 ≤ sizeLine := sz_le (by decide)
@[simp] theorem slt_34 : 34 < sizeLine := sz_lt' (by decide)
@[simp] theorem sle35 : 35 ≤ sizeLine := sz_le (by decide)
@[simp] theorem slt_35 : 35 < sizeLine := sz_lt' (by decide)
@[simp] theorem sle36 : 36 ≤ sizeLine := sz_le (by decide)
@[simp] theorem slt_36 : 36 < sizeLine := sz_lt' (by decide)
@[simp] theorem sle37 : 37 ≤ sizeLine := sz_le (by decide)
@[simp] theorem slt_37 : 37 < sizeLine := sz_lt' (by decide)
@[simp] theorem sle38 : 38 ≤ sizeLine := sz_le (by decide)
@[simp] theorem slt_38 : 38 < sizeLine := sz_lt' (by decide)
@[simp] theorem sle39 : 39 ≤ sizeLine := sz_le (by decide)
@[simp] theorem slt_39 : 39 < sizeLine := sz_lt' (by decide)
@[simp] theorem sle40 : 40 ≤ sizeLine := sz_le (by decide)
@[simp] theorem slt_40 : 40 < sizeLine := sz_lt' (by decide)
@[simp] theorem x_ixD_own (r : Rho) (i : Nat) (k : Int) : ixD r (.own i) (.int k) = (match r[i]? with
  | some (.ol ds) => (match L2.atI ds k with
    | some d => .ok d
    | none => .stuck)
  | _ => .stuck) := by
  show (match viewD r (.own i) with
    | some ds => (match L2.atI ds k with
      | some d => R.ok d
      | none => R.stuck)
    | none => R.stuck) = _
  simp only [viewD]
  cases r[i]? with
  | none => rfl
  | some x => cases x <;> rfl
@[simp] theorem x_tupleD_own (r : Rho) (i : Nat) : tupleD r [.own i] = (match r[i]? with
  | some (.ol ds) => .ok (.tup ds)
  | _ => .stuck) := by
  show (match viewL r (.own i) with
    | some ds => R.ok (D.tup ds)
    | none => R.stuck) = _
  simp only [viewL]
  cases r[i]? with
  | none => rfl
  | some x => cases x <;> rfl
end PL
end
section
namespace PL
open PySem PySem.Spec PyProof.Rows L2 PL.G
section
variable (r : Rho) (f fa fb fc : Rho → R D) (i j l : Nat) (fs : Rho → R (List D))
@[simp] theorem x_fDNew : fDNew i r = if decide (i < r.length) then .ok (.nx (r.set i (.od []))) else .stuck := rfl
@[simp] theorem x_fDV : fDV i r = (match r[i]? with
  | some (.od _) => .ok (.own i)
  | some (.im (.dic ks)) => .ok (.dic ks)
  | _ => .stuck) := rfl
end
abbrev Kv := List (Str × Rat)
def valR (kv : Kv) (n : Str) : Option Rat := (kv.find? fun x => decide (x.1 = n)).map (·.2)
end PL
end
section
namespace PL
open PySem PySem.Spec PyProof.Rows L2 PL.G
def pr (x : Str × Rat) : D := .tup [.str x.1, fr x.2]
def wOf (kv : Kv) (n : Str) : Rat := (valR kv n).getD 0
def wSum (ps : Kv) (n : Str) : Rat := ps.foldl (fun s x => if x.1 = n then s + x.2 else s) 0
structure Kok (N : List Str) (n : Nat) (kv : Kv) : Prop where
  nd : (kv.map (·.1)).Nodup
  sub : ∀ x ∈ kv.map (·.1), x ∈ N
  sm : ∀ m, Sm n (wOf kv m)
end PL
end
section
namespace PL
open PySem PySem.Spec PyProof.Rows L2 PL.G
def canon (N : List Str) (w : Str → Rat) : Kv := (N.filter fun n => decide (w n ≠ 0)).map fun n => (n, w n)
def Up (N : List Str) : Prop := N.Pairwise fun a b => strLt a b = true
theorem Up.srt {N : List Str} (h : Up N) : Srt N := List.Pairwise.imp (fun {a b} hab => by
  cases e : strLt b a with
  | false => rfl
  | true => have := strLt_trans hab e; rw [strLt_irrefl] at this; cases this) h
theorem Up.nodup {N : List Str} (h : Up N) : N.Nodup := List.Pairwise.imp (fun {a b} hab z => by
  rw [z, strLt_irrefl] at hab; cases hab) h
theorem perm_of_mem {l m : List Str} (h1 : l.Nodup) (h2 : m.Nodup) (h : ∀ x, x ∈ l ↔ x ∈ m) : l.Perm m := List.perm_iff_count.mpr fun a => by
  rw [h1.count, h2.count]
  by_cases e : a ∈ l
  · rw [if_pos e, if_pos ((h a).mp e)]
  · rw [if_neg e, if_neg fun z => e ((h a).mpr z)]
theorem filter_eq {N ks : List Str} {p : Str → Bool} (hN : Up N) (hk : ks.Nodup) (hs : ∀ x ∈ ks, x ∈ N) (hp : ∀ x ∈ N, p x = true → x ∈ ks) : (srtT ks).filter p = N.filter p := by
  have n1 : (srtT ks).Nodup := (srtT_perm ks).nodup_iff.mpr hk
  refine srt_uniq (perm_of_mem (n1.filter _) (hN.nodup.filter _) fun x => ?_) ((srtT_srt ks).filter _) (hN.srt.filter _)
  rw [List.mem_filter, List.mem_filter, (srtT_perm ks).mem_iff]
  exact ⟨fun ⟨a, b⟩ => ⟨hs x a, b⟩, fun ⟨a, b⟩ => ⟨hp x a b, b⟩⟩
theorem strsOf_map (xs : List Str) : strsOf (xs.map D.str) = some xs := by
  induction xs with
  | nil => rfl
  | cons x xs ih => simp [strsOf, ih]
end PL
end
section
namespace PL
open PySem PySem.Spec PyProof.Rows L2 PL.G
theorem foldl_add (qs : List Rat) : ∀ s : Rat, qs.foldl (· + ·) s = s + qs.foldl (· + ·) 0 := by
  induction qs with
  | nil => intro s; simp [Rat.add_zero]
  | cons q qs ih =>
    intro s
    rw [List.foldl_cons, List.foldl_cons, ih (s + q), ih (0 + q)]
    grind
theorem sumR_nil : sumR [] = 0 := rfl
theorem sumR_cons (q : Rat) (qs : List Rat) : sumR (q :: qs) = q + sumR qs := by
  unfold sumR
  rw [List.foldl_cons, foldl_add]
  grind
theorem sumR_append (a b : List Rat) : sumR (a ++ b) = sumR a + sumR b := by
  induction a with
  | nil => rw [List.nil_append, sumR_nil]; grind
  | cons q a ih => rw [List.cons_append, sumR_cons, sumR_cons, ih]; grind
theorem sumR_add {α : Type} (xs : List α) (f g : α → Rat) : sumR (xs.map fun x => f x + g x) = sumR (xs.map f) + sumR (xs.map g) := by
  induction xs with
  | nil => simp [sumR_nil, Rat.add_zero]
  | cons x xs ih => simp only [List.map_cons, sumR_cons, ih]; grind
theorem sumR_mul {α : Type} (xs : List α) (f : α → Rat) (c : Rat) : sumR (xs.map fun x => f x * c) = sumR (xs.map f) * c := by
  induction xs with
  | nil => simp [sumR_nil, Rat.zero_mul]
  | cons x xs ih => simp only [List.map_cons, sumR_cons, ih]; grind
theorem sumR_zero {α : Type} (xs : List α) (f : α → Rat) (h : ∀ x ∈ xs, f x = 0) : sumR (xs.map f) = 0 := by
  induction xs with
  | nil => rfl
  | cons x xs ih =>
    rw [List.map_cons, sumR_cons, ih fun y hy => h y (List.mem_cons_of_mem _ hy), h x List.mem_cons_self]
    grind
theorem sumR_congr {α : Type} (xs : List α) (f g : α → Rat) (h : ∀ x ∈ xs, f x = g x) : sumR (xs.map f) = sumR (xs.map g) := by
  rw [List.map_congr_left h]
theorem sumR_filter {α : Type} (xs : List α) (p : α → Bool) (f : α → Rat) (h : ∀ x ∈ xs, p x = false → f x = 0) : sumR ((xs.filter p).map f) = sumR (xs.map f) := by
  induction xs with
  | nil => rfl
  | cons x xs ih =>
    have a := ih fun y hy => h y (List.mem_cons_of_mem _ hy)
    rw [List.map_cons, sumR_cons]
    cases e : p x with
    | true => rw [List.filter_cons_of_pos e, List.map_cons, sumR_cons, a]
    | false =>
      rw [List.filter_cons_of_neg (by simp [e]), a, h x List.mem_cons_self e]
      grind
theorem sumR_one {N : List Str} (hN : N.Nodup) {n : Str} (hn : n ∈ N) (f : Str → Rat) : sumR (N.map fun m => if m = n then f m else 0) = f n := by
  induction N with
  | nil => cases hn
  | cons m N ih =>
    obtain ⟨h1, h2⟩ := List.nodup_cons.mp hN
    rw [List.map_cons, sumR_cons]
    by_cases e : m = n
    · rw [if_pos e, sumR_zero N _ (fun x hx => if_neg (fun z : x = n => h1 (e ▸ z ▸ hx))), e]
      grind
    · rw [if_neg e, ih h2 (by rcases List.mem_cons.mp hn with z | z; exact absurd z.symm e; exact z)]
      grind
theorem wSum_eq (ps : Kv) (n : Str) : wSum ps n = sumR (ps.map fun x => if x.1 = n then x.2 else 0) := by
  have : ∀ s : Rat, ps.foldl (fun s x => if x.1 = n then s + x.2 else s) s = s + sumR (ps.map fun x => if x.1 = n then x.2 else 0) := by
    induction ps with
    | nil => intro s; simp [sumR_nil, Rat.add_zero]
    | cons x ps ih =>
      intro s
      rw [List.foldl_cons, ih, List.map_cons, sumR_cons]
      split <;> grind
  unfold wSum
  rw [this]
  grind
theorem wSum_append (a b : Kv) (n : Str) : wSum (a ++ b) n = wSum a n + wSum b n := by
  rw [wSum_eq, wSum_eq, wSum_eq, List.map_append, sumR_append]
theorem canon_congr {N : List Str} {w v : Str → Rat} (h : ∀ n ∈ N, w n = v n) : canon N w = canon N v := by
  unfold canon
  have e : (N.filter fun n => decide (w n ≠ 0)) = N.filter fun n => decide (v n ≠ 0) := by
    apply List.filter_congr
    intro n hn
    rw [h n hn]
  rw [e]
  apply List.map_congr_left
  intro n hn
  rw [h n (List.mem_filter.mp hn).1]
theorem canon_mem {N : List Str} {w : Str → Rat} {x : Str × Rat} : x ∈ canon N w ↔ x.1 ∈ N ∧ w x.1 ≠ 0 ∧ x.2 = w x.1 := by
  unfold canon
  rw [List.mem_map]
  constructor
  · rintro ⟨n, hn, rfl⟩
    obtain ⟨h1, h2⟩ := List.mem_filter.mp hn
    exact ⟨h1, of_decide_eq_true h2, rfl⟩
  · rintro ⟨h1, h2, h3⟩
    exact ⟨x.1, List.mem_filter.mpr ⟨h1, decide_eq_true h2⟩, by rw [← h3]⟩
theorem canon_fst (N : List Str) (w : Str → Rat) : (canon N w).map (·.1) = N.filter fun n => decide (w n ≠ 0) := by
  unfold canon
  rw [List.map_map]
  exact List.map_id _
theorem canon_len (N : List Str) (w : Str → Rat) : (canon N w).length ≤ N.length := by
  unfold canon
  rw [List.length_map]
  exact List.length_filter_le _ _
theorem sumR_canon (N : List Str) (w : Str → Rat) (g : Str × Rat → Rat) (h : ∀ n, g (n, 0) = 0) : sumR ((canon N w).map g) = sumR (N.map fun n => g (n, w n)) := by
  unfold canon
  rw [List.map_map, ← sumR_filter N (fun n => decide (w n ≠ 0)) (fun n => g (n, w n))]
  · rfl
  · intro n _ e
    have : w n = 0 := by simpa using e
    rw [this, h]
theorem wSum_scaled {N : List Str} (hN : N.Nodup) (w : Str → Rat) (c : Rat) {n : Str} (hn : n ∈ N) : wSum ((canon N w).map fun x => (x.1, x.2 * c)) n = w n * c := by
  rw [wSum_eq, List.map_map]
  have := sumR_canon N w (fun x => if x.1 = n then x.2 * c else 0) (fun m => by simp only []; split <;> grind)
  refine this.trans ?_
  exact sumR_one hN hn fun m => w m * c
structure Wt (N : List Str) (k : Nat) (w : Str → Rat) : Prop where
  pos : ∀ n ∈ N, 0 ≤ w n
  sm : ∀ n ∈ N, Sm k (w n)
  sum : sumR (N.map w) = 1
theorem Wt.mono {N : List Str} {k l : Nat} {w : Str → Rat} (h : Wt N k w) (e : k ≤ l) : Wt N l w := ⟨h.pos, fun n hn => (h.sm n hn).mono e, h.sum⟩
def mixW (w v : Str → Rat) (p : Rat) : Str → Rat := fun n => w n * (1 - p) + v n * p
theorem Wt.mix {N : List Str} {k l : Nat} {w v : Str → Rat} {p : Rat} (hw : Wt N k w) (hv : Wt N k v) (h0 : 0 ≤ p) (h1 : p ≤ 1) (hp : Sm l p) : Wt N (k + k + l + l + 3) (mixW w v p) where
  pos := fun n hn => by
    have a := Rat.mul_nonneg (hw.pos n hn) (show (0 : Rat) ≤ 1 - p by grind)
    have b := Rat.mul_nonneg (hv.pos n hn) h0
    unfold mixW
    grind
  sm := fun n hn => by
    have o : Sm 1 (1 : Rat) := ⟨by decide, by decide⟩
    exact (((hw.sm n hn).mul (o.sub hp)).add ((hv.sm n hn).mul hp)).mono (by omega)
  sum := by
    show sumR (N.map fun n => w n * (1 - p) + v n * p) = 1
    rw [sumR_add, sumR_mul, sumR_mul, hw.sum, hv.sum]
    grind
end PL
end
section
namespace PL
open PySem PySem.Spec PyProof.Rows L2 PL.G
def nms (b : Bk) : List Str := b.map (·.1)
theorem Bok.up {m : Nat} {b : Bk} (h : Bok m b) : Up (nms b) := List.pairwise_map.mpr h.srt
theorem Bok.nlen {m : Nat} {b : Bk} (h : Bok m b) : (nms b).length ≤ 6 := by rw [nms, List.length_map]; exact h.l6
theorem Bok.nmOk {m : Nat} {b : Bk} (h : Bok m b) {n : Str} (hn : n ∈ nms b) : Nm n := by
  obtain ⟨p, hp, rfl⟩ := List.mem_map.mp hn
  exact h.nm p hp
theorem inB_strs (n : Str) (xs : List Str) : inB (.str n) (xs.map .str) = decide (n ∈ xs) := by
  unfold inB
  rw [List.map_map]
  show ((xs.map (fv ∘ D.str)).any fun y => eqV y (.str n)) = _
  rw [List.any_map]
  induction xs with
  | nil => rfl
  | cons x xs ih =>
    rw [List.any_cons, ih]
    have e : (((fun y => eqV y (.str n)) ∘ (fv ∘ D.str)) x) = decide (n = x) := by
      show (x == n) = _
      by_cases z : n = x
      · subst z; simp
      · have z2 : ¬ x = n := fun y => z y.symm
        simp [z, z2]
    rw [e]
    by_cases z : n = x <;> simp [z]
theorem flat_strs (xs : List Str) : (xs.map D.str).all flatD = true := by
  rw [List.all_map, List.all_eq_true]; intro x _; rfl
theorem in_strs (r : Rho) (neg : Bool) (n : Str) (xs : List Str) : inG neg r (.str n) (.lst (xs.map .str)) = .ok (.bl (if neg then !decide (n ∈ xs) else decide (n ∈ xs))) := by
  show (if flatD (.str n) && (xs.map D.str).all flatD then R.ok (D.bl (if neg then !inB (.str n) (xs.map .str) else inB (.str n) (xs.map .str))) else .stuck) = _
  rw [flat_strs, inB_strs]; rfl
theorem lc_firsts {i : Nat} {r : Rho} {fi : Rho → R (List D)} {b : Bk} (h1 : fi r = .ok (b.map pD)) (hl : b.length ≤ 1000) (hi : i < r.length) :
    fLc [i] (.nm i) fi (fun _ => .ok true) (fBin ixD (fVar i) (fK (.int 0))) r = .ok ((nms b).map .str) := by
  refine fLc_ok h1 (by simp; omega) ?_
  rw [nms, List.map_map]
  refine lcGo_all (t := .nm i) pD (D.str ∘ fun p => p.1) b fun p _ => ⟨(wipeR r [i]).set i (.im (pD p)), by simp [hi], ?_, rfl⟩
  simp [hi, pD]
theorem F_hasname {m : Nat} {b : Bk} (h : Bok m b) {n : Str} (hn : Nm n) : F_has_name [bkD b, .str n] = .ok (.bl (decide (n ∈ nms b))) := by
  have e := nm_name hn
  have h6 := h.l6
  have l := lc_firsts (i := 2) (r := [.im (bkD b), .im (.str n), .un]) (fi := fIt true (fVar 0)) (b := b) rfl (by omega) (by simp)
  refine run_rt (r0 := [.im (bkD b), .im (.str n), .un]) rfl ?_
  refine ret_of ?_ rfl
  rw [x_fAndV, call_1 (a := .str n) rfl rfl e]
  simp only [bnd_ok, x_boolOf, if_true]
  rw [x_fBin, fL_of l, x_fVar]
  exact in_strs [.im (bkD b), .im (.str n), .un] false n (nms b)
theorem F_hasname' {m : Nat} {b : Bk} (h : Bok m b) {n : Str} (hn : n ∈ nms b) : F_has_name [bkD b, .str n] = .ok (.bl true) := by
  rw [F_hasname h (h.nmOk hn), decide_eq_true hn]
theorem seenT_perm : ∀ (xs ks : List Str), (∀ x ∈ xs, x ∉ ks) → xs.Nodup → (seenT ks xs).Perm (ks ++ xs)
  | [], ks, _, _ => by rw [List.append_nil]; exact .refl _
  | x :: xs, ks, h, hn => by
    obtain ⟨h1, h2⟩ := List.nodup_cons.mp hn
    show (seenT (if x ∈ ks then ks else x :: ks) xs).Perm _
    rw [if_neg (h x List.mem_cons_self)]
    refine (seenT_perm xs (x :: ks) (fun y hy hk => ?_) h2).trans ?_
    · rcases List.mem_cons.mp hk with e | e
      · exact h1 (e ▸ hy)
      · exact h y (List.mem_cons_of_mem _ hy) e
    · exact List.perm_middle.symm
theorem srt_seen {xs : List Str} (h : Up xs) : srtT (seenT [] xs) = xs :=
  srt_uniq ((srtT_perm _).trans (seenT_perm xs [] (fun _ _ z => by cases z) h.nodup)) (srtT_srt _) h.srt
theorem dep_strs {xs : List Str} (h : ∀ x ∈ xs, PyData.strOk x = true) : Dep 1 (.lst (xs.map .str)) := dep_lst (n := 0) fun d hd => by
  obtain ⟨x, hx, rfl⟩ := List.mem_map.mp hd
  exact dep_str 0 (h x hx)
theorem dep_pr {x : Str × Rat} (h : PyData.strOk x.1 = true) : Dep 2 (pr x) := dep_tup (n := 1) fun d hd => by
  rcases List.mem_cons.mp hd with rfl | hd
  · exact dep_str 1 h
  · rw [List.mem_singleton.mp hd]; exact dep_fr _
theorem canon_dep {m : Nat} {b : Bk} (h : Bok m b) (w : Str → Rat) : Dep 3 (.lst ((canon (nms b) w).map pr)) := dep_lst (n := 2) fun d hd => by
  obtain ⟨x, hx, rfl⟩ := List.mem_map.mp hd
  exact dep_pr (nm_ok (h.nmOk (canon_mem.mp hx).1))
theorem F_areshin {m k : Nat} {b : Bk} {w : Str → Rat} {A : D} (h : Bok m b) (hw : Wt (nms b) k w) (hk : k ≤ 1000) (hA : SeqOf A ((canon (nms b) w).map pr)) : F_are_shares_in [bkD b, A] = .ok (.bl true) := by
  have h6 := h.nlen
  have cl := canon_len (nms b) w
  have own : ∀ r, ownL r A = true := fun r => by rcases hA with rfl | rfl <;> rfl
  have ty : (isTy A "list" || isTy A "tuple") = true := by rcases hA with rfl | rfl <;> rfl
  obtain ⟨r', f1, x2, rfl⟩ := forGo_mem (t := .nm 2) (fb := (fSeq (fIfS (fOr (fNot (fTest (fIsi ["tuple"] (fVar 2)))) (fOr (fTest (fBin neD (fCallB lenD (fConsB (fVar 2) fNil)) (fK (.int 2)))) (fNot (fTest (fCall 2 F_has_name (fCons (fVar 0) (fCons (fBin ixD (fVar 2) (fK (.int 0))) fNil))))))) (fRet (fK (.bl false))) fNx)
    (fIfS (fOr (fNot (fTest (fCall 1 F_is_fraction (fCons (fBin ixD (fVar 2) (fK (.int 1))) fNil)))) (fTest (fBin leD (fBin ixD (fBin ixD (fVar 2) (fK (.int 1))) (fK (.int 0))) (fK (.int 0))))) (fRet (fK (.bl false))) fNx))) pr (fun r => ∃ x, r = [.im (bkD b), .im A, x, .un]) (canon (nms b) w) (fun x hx r hr => by
      obtain ⟨y, rfl⟩ := hr
      obtain ⟨c1, c2, c3⟩ := canon_mem.mp hx
      have e1 := F_hasname' h c1
      have e2 := F_isfr x.2
      have np : ¬ x.2.num ≤ 0 := by
        have p := hw.pos x.1 c1
        rw [← c3] at p c2
        have z : x.2.num ≠ 0 := fun z => c2 (Rat.num_eq_zero.mp z)
        have := Rat.num_nonneg.mpr p
        omega
      have i0 : imD (bkD b) = .ok (bkD b) := rfl
      refine ⟨[.im (bkD b), .im A, .im (pr x), .un], [.im (bkD b), .im A, .im (pr x), .un], by simp, .inl ?_, ⟨_, rfl⟩⟩
      refine seq_go (if_skip (or_no (by simp [pr]) (or_no (by simp [pr]) ?_))) (if_skip (or_no ?_ ?_))
      · rw [x_fNot, x_fTest, call_2 (a := bkD b) (b := .str x.1) rfl i0 (by simp [pr]) rfl e1]; rfl
      · rw [x_fNot, x_fTest, call_1 (a := fr x.2) (by simp [pr]) rfl e2]; rfl
      · simp [pr, fr, np]) [.im (bkD b), .im A, .un, .un] ⟨_, rfl⟩
  have l1 : fLc [2] (.nm 2) (fIt true (fVar 1)) (fun _ => .ok true) (fBin ixD (fVar 2) (fK (.int 0))) [.im (bkD b), .im A, x2, .un] = .ok (((canon (nms b) w).map (·.1)).map .str) := by
    refine fLc_ok (X := (canon (nms b) w).map pr) (by rw [x_fIt]; exact hA.items true _) (by simp; omega) ?_
    rw [List.map_map]
    exact lcGo_all (t := .nm 2) (fe := fBin ixD (fVar 2) (fK (.int 0))) (r := wipeR [.im (bkD b), .im A, x2, .un] [2]) pr (D.str ∘ fun p => p.1) (canon (nms b) w) fun p _ => ⟨[.im (bkD b), .im A, .im (pr p), .un], by simp, by simp [pr], rfl⟩
  have l2 : ∀ x3 : Sl, fLc [2] (.nm 2) (fIt true (fVar 1)) (fun _ => .ok true) (fBin ixD (fVar 2) (fK (.int 1))) [.im (bkD b), .im A, x2, x3] = .ok (((canon (nms b) w).map (·.2)).map fr) := fun x3 => by
    refine fLc_ok (X := (canon (nms b) w).map pr) (by rw [x_fIt]; exact hA.items true _) (by simp; omega) ?_
    rw [List.map_map]
    exact lcGo_all (t := .nm 2) (fe := fBin ixD (fVar 2) (fK (.int 1))) (r := wipeR [.im (bkD b), .im A, x2, x3] [2]) pr (fr ∘ fun p => p.2) (canon (nms b) w) fun p _ => ⟨[.im (bkD b), .im A, .im (pr p), x3], by simp, by simp [pr], rfl⟩
  have up2 : Up ((canon (nms b) w).map (·.1)) := by
    rw [canon_fst]
    exact List.Pairwise.sublist List.filter_sublist h.up
  have s1 := F_summed_ok (k := k) (qs := (canon (nms b) w).map (·.2)) (fun q hq => by
    obtain ⟨x, hx, rfl⟩ := List.mem_map.mp hq
    obtain ⟨c1, c2, c3⟩ := canon_mem.mp hx
    rw [c3]
    exact hw.sm _ c1) (by
      rw [List.length_map]
      have a1 : (canon (nms b) w).length ≤ 6 := by omega
      have := Nat.mul_le_mul (show k + 1 ≤ 1001 by omega) a1
      omega)
  rw [sumR_canon (nms b) w (·.2) (fun _ => rfl), hw.sum] at s1
  have ss : fSortSet (fVar 3) [.im (bkD b), .im A, x2, .im (.lst (((canon (nms b) w).map (·.1)).map .str))] = .ok (((canon (nms b) w).map (·.1)).map .str) := by
    show (match strsOf (((canon (nms b) w).map (·.1)).map D.str) with
      | some xs => if decide (xs.length < 64) then R.ok ((srtT (seenT [] xs)).map D.str) else .stuck
      | none => .stuck) = _
    rw [strsOf_map]
    dsimp only
    rw [if_pos (decide_eq_true (by rw [List.length_map]; omega)), srt_seen up2]
  have eq1 := eqD_self (r := [.im (bkD b), .im A, x2, .im (.lst (((canon (nms b) w).map (·.1)).map .str))]) (dep_strs (xs := (canon (nms b) w).map (·.1)) (fun x hx => by
    obtain ⟨y, hy, rfl⟩ := List.mem_map.mp hx
    exact nm_ok (h.nmOk (canon_mem.mp hy).1))) (by decide)
  refine run_rt (r0 := [.im (bkD b), .im A, .un, .un]) rfl ?_
  refine seq_go (if_skip (by
    simp only [x_fNot, x_fTest, x_fIsi, x_fVar, List.getElem?_cons_succ, List.getElem?_cons_zero, bnd_ok, own, if_true, List.any_cons, List.any_nil, Bool.or_false, ty, x_boolOf, Bool.not_true])) ?_
  refine seq_go (for_go (ds := (canon (nms b) w).map pr) (hA.items false _) f1) ?_
  refine seq_go (r' := [.im (bkD b), .im A, x2, .im (.lst (((canon (nms b) w).map (·.1)).map .str))]) (asg_to (fL_of l1) rfl (by simp) rfl) ?_
  refine ret_of ?_ rfl
  rw [x_fAndV, x_fBin, x_fVar]
  show (((fL (fSortSet (fVar 3)) _).bnd fun y => eqD _ _ y).bnd _) = _
  rw [fL_of ss, bnd_ok, eq1]
  show fBin eqD _ _ _ = _
  rw [x_fBin, call_1 (fL_of (l2 _)) rfl s1, bnd_ok]
  show eqD _ (fr 1) d_ONE = _
  have : d_ONE = fr 1 := rfl
  rw [this, eqD_fr]; rfl
theorem F_lookshares {m k : Nat} {b : Bk} {w : Str → Rat} {A : D} (h : Bok m b) (hw : Wt (nms b) k w) (hk : k ≤ 1000) (hA : SeqOf A ((canon (nms b) w).map pr)) : F_look_shares [bkD b, A] = .ok .non := by
  have e := F_areshin h hw hk hA
  simp only [F_look_shares, x_runF, B_look_shares]
  show (match fIfS _ _ _ [.im (bkD b), .im A] with
    | .ok (.nx _) => R.ok D.non
    | .ok (.rt d) => .ok d
    | .ok _ => .stuck
    | .err c => .err c
    | .stuck => .stuck) = _
  rw [if_skip (by rw [x_fNot, x_fTest, call_2 rfl rfl rfl hA.im e]; rfl)]
theorem canon_sm {N : List Str} {k : Nat} {w : Str → Rat} (hw : ∀ n ∈ N, Sm k (w n)) : ∀ x ∈ canon N w, Sm k x.2 := fun x hx => by
  obtain ⟨c1, c2, c3⟩ := canon_mem.mp hx
  rw [c3]
  exact hw _ c1
end PL
end
section
namespace PL
open PySem PySem.Spec PyProof.Rows L2 PL.G
theorem Bok.nodup {m : Nat} {b : Bk} (h : Bok m b) : (nms b).Nodup := h.up.nodup
theorem ix_tup {r : Rho} {ds : List D} {j : Nat} {d : D} (h : ds[j]? = some d) : ixD r (.tup ds) (.int j) = .ok d := by
  rw [x_ixD_tup, L2.atI_nat h]
theorem ix_lst {r : Rho} {ds : List D} {j : Nat} {d : D} (h : ds[j]? = some d) : ixD r (.lst ds) (.int j) = .ok d := by
  rw [x_ixD_lst, L2.atI_nat h]
theorem canon_self {kv : Kv} (hn : (kv.map (·.1)).Nodup) : (∀ x ∈ kv, wSum kv x.1 = x.2) ∧ canon (kv.map (·.1)) (wSum kv) = kv.filter fun x => decide (x.2 ≠ 0) := by
  have a : ∀ x ∈ kv, wSum kv x.1 = x.2 := by
    intro x hx
    rw [wSum_eq]
    induction kv with
    | nil => cases hx
    | cons y kv ih =>
      obtain ⟨h1, h2⟩ := List.nodup_cons.mp (show (y.1 :: kv.map (·.1)).Nodup from hn)
      rw [List.map_cons, sumR_cons]
      rcases List.mem_cons.mp hx with e | e
      · rw [e, if_pos rfl, sumR_zero kv _ (fun z hz => if_neg (fun q : z.1 = y.1 => h1 (q ▸ List.mem_map.mpr ⟨z, hz, rfl⟩)))]
        grind
      · rw [if_neg (fun q : y.1 = x.1 => h1 (q ▸ List.mem_map.mpr ⟨x, e, rfl⟩)), ih h2 e]
        grind
  refine ⟨a, ?_⟩
  unfold canon
  rw [List.filter_map, List.map_map]
  have e : (kv.filter ((fun n => decide (wSum kv n ≠ 0)) ∘ fun x => x.1)) = kv.filter fun x => decide (x.2 ≠ 0) := by
    apply List.filter_congr
    intro x hx
    show decide (wSum kv x.1 ≠ 0) = _
    rw [a x hx]
  rw [e]
  conv => rhs; rw [← List.map_id (kv.filter fun x => decide (x.2 ≠ 0))]
  apply List.map_congr_left
  intro x hx
  show (x.1, wSum kv x.1) = x
  rw [a x (List.mem_filter.mp hx).1]
theorem sumR_div (is : List Int) (d : Int) : sumR (is.map fun i => Rat.divInt i d) = Rat.divInt is.sum d := by
  have e : ∀ i : Int, Rat.divInt i d = (i : Rat) * (d : Rat)⁻¹ := fun i => by rw [Rat.divInt_eq_div, Rat.div_def]
  induction is with
  | nil => simp [sumR_nil]
  | cons i is ih =>
    rw [List.map_cons, sumR_cons, ih, List.sum_cons, e, e, e, Rat.intCast_add]
    grind
def prI (x : Str × Int) : D := .tup [.str x.1, .int x.2]
theorem F_lawnames {m : Nat} {b : Bk} (h : Bok m b) : F_u_law_names [bkD b] = .ok (.lst ((nms b).map .str)) := by
  have h6 := h.l6
  have l : fLc [1, 2] (.tp [(.nm 1), (.nm 2)]) (fIt true (fVar 0)) (fun _ => .ok true) (fVar 1) [.im (bkD b), .un, .un] = .ok ((nms b).map .str) := by
    refine fLc_ok (X := b.map pD) rfl (by simp; omega) ?_
    rw [nms, List.map_map]
    exact lcGo_all (t := .tp [(.nm 1), (.nm 2)]) pD (D.str ∘ fun p => p.1) b fun p _ => ⟨[.im (bkD b), .im (.str p.1), .im (.tup (p.2.map .int))], by simp [pD], by simp, rfl⟩
  refine run_rt (r0 := [.im (bkD b), .un, .un]) rfl ?_
  exact ret_of (fL_of l) rfl
def ind (n : Str) : Str → Rat := fun m => if m = n then 1 else 0
theorem wt_ind {N : List Str} (hN : N.Nodup) {n : Str} (hn : n ∈ N) : Wt N 1 (ind n) where
  pos := fun m _ => by unfold ind; split <;> decide
  sm := fun m _ => by unfold ind; split; exact sm_one; exact sm_zero
  sum := sumR_one hN hn fun _ => 1
theorem canon_ind {N : List Str} (hN : N.Nodup) {n : Str} (hn : n ∈ N) : canon N (ind n) = [(n, 1)] := by
  induction N with
  | nil => cases hn
  | cons m N ih =>
    obtain ⟨h1, h2⟩ := List.nodup_cons.mp hN
    unfold canon
    by_cases e : m = n
    · rw [List.filter_cons_of_pos (by simp [ind, e]), List.map_cons]
      have z : (N.filter fun n_1 => decide (ind n n_1 ≠ 0)) = [] := by
        rw [List.filter_eq_nil_iff]
        intro y hy q
        have : ¬ y = n := fun q2 => h1 (e ▸ q2 ▸ hy)
        simp [ind, this] at q
      rw [z]
      simp [ind, e]
    · rw [List.filter_cons_of_neg (by simp [ind, e])]
      exact ih h2 (by rcases List.mem_cons.mp hn with z | z; exact absurd z.symm e; exact z)
theorem law_sharesQ {m : Nat} {b : Bk} (h : Bok m b) (ns : List Int) (a : Int) (h0 : 0 ≤ a) : ∃ w, Wt (nms b) 5 w ∧ (∃ D : Nat, 0 < D ∧ D ≤ 30 ∧ ∀ n ∈ nms b, ∃ N : Int, w n * ((D : Int) : Rat) = (N : Rat)) ∧ F_u_law_shares [.scr ns, .int a, bkD b] = .ok (.lst ((canon (nms b) w).map pr)) := by
  have h6 := h.nlen
  have hl1 : 1 ≤ (nms b).length := by rw [nms, List.length_map]; exact h.l1
  have en := F_lawnames h
  obtain ⟨W, hW⟩ : ∃ W : List (Str × Int), W = (enl 0 (nms b)).map fun x => (x.2, pk ns (a + x.1) 5) := ⟨_, rfl⟩
  have Wl : W.length ≤ 6 := by rw [hW, List.length_map, enl_len]; exact h6
  have Wn : W.map (·.1) = nms b := by rw [hW, List.map_map]; exact enl_snd 0 (nms b)
  have Wr : ∀ x ∈ W, 0 ≤ x.2 ∧ x.2 < 5 := fun x hx => by
    rw [hW] at hx
    obtain ⟨y, hy, rfl⟩ := List.mem_map.mp hx
    exact (pick_ok ns (a + y.1) 5 (by omega) (by decide)).2
  have l1 : fLc [5, 6] (.tp [(.nm 5), (.nm 6)]) (fEnum true (fConsB (fCall 1 F_u_law_names (fCons (fVar 2) fNil)) fNil)) (fun _ => .ok true) (fTup (fCons (fVar 6) (fCons (fCall 3 F_u_law_pick (fCons (fVar 0) (fCons (fBin addD (fVar 1) (fVar 5)) (fCons (fK (.int 5)) fNil)))) fNil))) [.im (.scr ns), .im (.int a), .im (bkD b), .un, .un, .un, .un, .un] = .ok (W.map prI) := by
    refine fLc_ok (X := (enl 0 (nms b)).map enD) ?_ (by rw [List.length_map, enl_len]; omega) ?_
    · rw [x_fEnum, x_fConsB, call_1 (a := bkD b) rfl rfl en]
      show R.ok (enumFrom 0 ((nms b).map .str)) = _
      rw [enl_enum]
    · rw [hW, List.map_map]
      refine lcGo_all (t := .tp [(.nm 5), (.nm 6)]) enD (prI ∘ fun x => (x.2, pk ns (a + x.1) 5)) (enl 0 (nms b)) fun x hx => ⟨[.im (.scr ns), .im (.int a), .im (bkD b), .un, .un, .im (.int (x.1 : Nat)), .im (.str x.2), .un], by simp [enD], ?_, rfl⟩
      have q := (pick_ok ns (a + x.1) 5 (by omega) (by decide)).1
      have c := call_3 (r := [.im (.scr ns), .im (.int a), .im (bkD b), .un, .un, .im (.int (x.1 : Nat)), .im (.str x.2), .un]) (fa := fVar 0) (fb := fBin addD (fVar 1) (fVar 5)) (fc := fK (.int 5)) (a := .scr ns) (b := .int (a + x.1)) (c := .int 5) rfl rfl rfl rfl rfl rfl q
      rw [x_fTup, x_fCons, x_fVar, x_fCons, c]
      simp [prI]
  have l2 : fLc [6, 7] (.tp [(.nm 6), (.nm 7)]) (fIt true (fVar 3)) (fun _ => .ok true) (fVar 7) [.im (.scr ns), .im (.int a), .im (bkD b), .im (.lst (W.map prI)), .un, .un, .un, .un] = .ok ((W.map (·.2)).map .int) := by
    refine fLc_ok (X := W.map prI) rfl (by simp; omega) ?_
    rw [List.map_map]
    exact lcGo_all (t := .tp [(.nm 6), (.nm 7)]) prI (D.int ∘ fun x => x.2) W fun x _ => ⟨[.im (.scr ns), .im (.int a), .im (bkD b), .im (.lst (W.map prI)), .un, .un, .im (.str x.1), .im (.int x.2)], by simp [prI], by simp, rfl⟩
  obtain ⟨S, hS⟩ : ∃ S : Int, S = (W.map (·.2)).sum := ⟨_, rfl⟩
  have Sr : 0 ≤ S ∧ S ≤ 5 * W.length := by
    rw [hS]
    clear l1 l2 hW Wl Wn hS
    induction W with
    | nil => simp
    | cons x W ih =>
      have i := ih fun y hy => Wr y (List.mem_cons_of_mem _ hy)
      have j := Wr x List.mem_cons_self
      rw [List.map_cons, List.sum_cons, List.length_cons]
      omega
  have s1 := sumD_ok [.im (.scr ns), .im (.int a), .im (bkD b), .im (.lst (W.map prI)), .un, .un, .un, .un] (W.map (·.2))
  rw [← hS] at s1
  have main : ∀ d, (fSeq (fIfS (fTest (fBin eqD (fVar 4) (fK (.int 0)))) (fRet (fL (fLst (fCons (fTup (fCons (fBin ixD (fCall 1 F_u_law_names (fCons (fVar 2) fNil)) (fCall 3 F_u_law_pick (fCons (fVar 0) (fCons (fBin addD (fVar 1) (fK (.int 8))) (fCons (fCallB lenD (fConsB (fVar 2) fNil)) fNil))))) (fCons (fTup (fCons (fK (.int 1)) (fCons (fK (.int 1)) fNil))) fNil))) fNil)))) fNx)
    (fRet (fL (fLc [6, 7] (.tp [(.nm 6), (.nm 7)]) (fIt true (fVar 3)) (fTest (fBin gtI (fVar 7) (fK (.int 0)))) (fTup (fCons (fVar 6) (fCons (fCall 2 F_u_law_low (fCons (fVar 7) (fCons (fVar 4) fNil))) fNil))))))) [.im (.scr ns), .im (.int a), .im (bkD b), .im (.lst (W.map prI)), .im (.int S), .un, .un, .un] = .ok (.rt d) → F_u_law_shares [.scr ns, .int a, bkD b] = .ok d := fun d hd => by
    refine run_rt (r0 := [.im (.scr ns), .im (.int a), .im (bkD b), .un, .un, .un, .un, .un]) rfl ?_
    refine seq_go (r' := [.im (.scr ns), .im (.int a), .im (bkD b), .im (.lst (W.map prI)), .un, .un, .un, .un]) (asg_to (fL_of l1) rfl (by simp) rfl) ?_
    refine seq_go (r' := [.im (.scr ns), .im (.int a), .im (bkD b), .im (.lst (W.map prI)), .im (.int S), .un, .un, .un]) (asg_to (d := .int S) ?_ rfl (by simp) rfl) hd
    rw [x_fCallB, x_fConsB, fL_of l2]
    exact s1
  by_cases z : S = 0
  · obtain ⟨q1, q2, q3⟩ := pick_ok ns (a + 8) ((nms b).length : Nat) (by omega) (by omega)
    obtain ⟨i, hi⟩ := Int.eq_ofNat_of_zero_le q2
    have il : i < (nms b).length := by omega
    refine ⟨ind ((nms b)[i]), (wt_ind h.nodup (List.getElem_mem il)).mono (by decide), ⟨1, by decide, by decide, fun n _ => by
      unfold ind
      split
      · exact ⟨1, by decide +kernel⟩
      · exact ⟨0, by decide +kernel⟩⟩, main _ ?_⟩
    rw [canon_ind h.nodup (List.getElem_mem il)]
    refine seq_rt ?_
    have lb : lenD [.im (.scr ns), .im (.int a), .im (bkD b), .im (.lst (W.map prI)), .im (.int S), .un, .un, .un] [bkD b] = .ok (.int ((nms b).length : Nat)) := by simp [bkD, nms]
    rw [hi] at q1
    have c := call_3 (r := [.im (.scr ns), .im (.int a), .im (bkD b), .im (.lst (W.map prI)), .im (.int S), .un, .un, .un]) (fa := fVar 0) (fb := fBin addD (fVar 1) (fK (.int 8))) (fc := fCallB lenD (fConsB (fVar 2) fNil)) (a := .scr ns) (b := .int (a + 8)) (c := .int ((nms b).length : Nat)) rfl rfl rfl rfl lb rfl q1
    have ix : ixD [.im (.scr ns), .im (.int a), .im (bkD b), .im (.lst (W.map prI)), .im (.int S), .un, .un, .un] (.lst ((nms b).map .str)) (.int i) = .ok (.str (nms b)[i]) := ix_lst (by rw [List.getElem?_map, List.getElem?_eq_getElem il]; rfl)
    have t : fTest (fBin eqD (fVar 4) (fK (.int 0))) [.im (.scr ns), .im (.int a), .im (bkD b), .im (.lst (W.map prI)), .im (.int S), .un, .un, .un] = .ok true := by simp [z]
    rw [x_fIfS, t]
    refine ret_of ?_ rfl
    rw [x_fL, x_fLst, x_fCons, x_fTup, x_fCons, x_fBin, call_1 (a := bkD b) rfl rfl en, bnd_ok, c, bnd_ok]
    rw [ix]
    rfl
  · obtain ⟨kv, hkv⟩ : ∃ kv : Kv, kv = W.map fun x => (x.1, Rat.divInt x.2 S) := ⟨_, rfl⟩
    have kn : kv.map (·.1) = nms b := by rw [hkv, List.map_map]; exact Wn
    obtain ⟨c1, c2⟩ := canon_self (kv := kv) (by rw [kn]; exact h.nodup)
    rw [kn] at c2
    have sd : ∀ x ∈ W, Sm 5 (Rat.divInt x.2 S) := fun x hx => divInt_sm z (by have := Wr x hx; omega) (by omega)
    refine ⟨wSum kv, ⟨fun n hn => ?_, fun n hn => ?_, ?_⟩, ⟨S.toNat, by omega, by omega, fun n hn => ?_⟩, main _ ?_⟩
    · rw [← kn] at hn
      obtain ⟨y, hy, rfl⟩ := List.mem_map.mp hn
      rw [c1 y hy]
      rw [hkv] at hy
      obtain ⟨x, hx, rfl⟩ := List.mem_map.mp hy
      exact Rat.divInt_nonneg (Wr x hx).1 (by omega)
    · rw [← kn] at hn
      obtain ⟨y, hy, rfl⟩ := List.mem_map.mp hn
      rw [c1 y hy]
      rw [hkv] at hy
      obtain ⟨x, hx, rfl⟩ := List.mem_map.mp hy
      exact sd x hx
    · rw [← kn, List.map_map]
      refine (sumR_congr kv (wSum kv ∘ fun x => x.1) (·.2) c1).trans ?_
      rw [hkv, List.map_map]
      have e := sumR_div (W.map (·.2)) S
      rw [List.map_map, ← hS] at e
      refine e.trans ?_
      rw [Rat.divInt_self']
      exact z
    · rw [← kn] at hn
      obtain ⟨y, hy, rfl⟩ := List.mem_map.mp hn
      rw [c1 y hy]
      rw [hkv] at hy
      obtain ⟨x, hx, rfl⟩ := List.mem_map.mp hy
      refine ⟨x.2, ?_⟩
      have z' : (S : Rat) ≠ 0 := by simpa using z
      have e2 : ((S.toNat : Nat) : Int) = S := by omega
      rw [e2]
      show Rat.divInt x.2 S * _ = _
      rw [Rat.divInt_eq_div]
      exact Rat.div_mul_cancel z'
    · rw [c2]
      refine seq_go (if_skip (by simp [z])) ?_
      refine ret_of (fL_of ?_) rfl
      refine fLc_ok (X := W.map prI) rfl (by simp; omega) ?_
      have q := lcGo_typed (t := .tp [(.nm 6), (.nm 7)]) (ft := fTest (fBin gtI (fVar 7) (fK (.int 0)))) (fe := fTup (fCons (fVar 6) (fCons (fCall 2 F_u_law_low (fCons (fVar 7) (fCons (fVar 4) fNil))) fNil))) (r := wipeR [.im (.scr ns), .im (.int a), .im (bkD b), .im (.lst (W.map prI)), .im (.int S), .un, .un, .un] [6, 7]) prI (fun x => decide (0 < x.2)) (fun x => pr (x.1, Rat.divInt x.2 S)) W (fun x hx => ⟨[.im (.scr ns), .im (.int a), .im (bkD b), .im (.lst (W.map prI)), .im (.int S), .un, .im (.str x.1), .im (.int x.2)], by simp [prI], by simp, fun _ => ⟨by
        have f := F_low_ok (u := x.2) (d := S) (n := 5) z (by omega) (by decide)
        have c := call_2 (r := [.im (.scr ns), .im (.int a), .im (bkD b), .im (.lst (W.map prI)), .im (.int S), .un, .im (.str x.1), .im (.int x.2)]) (fa := fVar 7) (fb := fVar 4) (a := .int x.2) (b := .int S) rfl rfl rfl rfl f
        rw [x_fTup, x_fCons, x_fVar, x_fCons, c]
        simp [pr], rfl⟩⟩)
      rw [q, hkv, List.filter_map, List.map_map]
      congr 1
      have e : (W.filter ((fun x : Str × Rat => decide (x.2 ≠ 0)) ∘ fun x => (x.1, Rat.divInt x.2 S))) = W.filter fun x => decide (0 < x.2) := by
        apply List.filter_congr
        intro x hx
        show decide (Rat.divInt x.2 S ≠ 0) = _
        have r := Wr x hx
        by_cases y : x.2 = 0
        · simp [y]
        · have : 0 < x.2 := by omega
          have n0 : Rat.divInt x.2 S ≠ 0 := fun q => y (by
            have z' : (S : Rat) ≠ 0 := by simpa using z
            have c := Rat.div_mul_cancel z' (a := (x.2 : Rat))
            rw [← Rat.divInt_eq_div, q, Rat.zero_mul] at c
            exact Rat.intCast_eq_zero_iff.mp c.symm)
          simp [this, n0]
      rw [e]
      rfl
theorem law_shares {m : Nat} {b : Bk} (h : Bok m b) (ns : List Int) (a : Int) (h0 : 0 ≤ a) : ∃ w, Wt (nms b) 5 w ∧ F_u_law_shares [.scr ns, .int a, bkD b] = .ok (.lst ((canon (nms b) w).map pr)) := by
  obtain ⟨w, h1, _, h2⟩ := law_sharesQ h ns a h0
  exact ⟨w, h1, h2⟩
end PL
end
section
namespace PL
open PySem PySem.Spec PyProof.Rows L2 PL.G
theorem ndq (q : Rat) : (q.num : Rat) = q * ((q.den : Int) : Rat) := by
  have e := mul_divInt q (((q.den : Int)) : Rat)
  rw [Rat.num_intCast, Rat.den_intCast] at e
  rw [← e]
  have e2 : ((q.den : Int)) * ((1 : Nat) : Int) = 1 * (q.den : Int) := by omega
  rw [e2, Rat.divInt_mul_right (den_ne q)]
  have z := Rat.num_divInt_den (q.num : Rat)
  rw [Rat.num_intCast, Rat.den_intCast] at z
  exact z.symm
theorem divInt_is {u d : Int} {q : Rat} (hd : d ≠ 0) (h : (u : Rat) = q * (d : Rat)) : Rat.divInt u d = q := by
  have hd' : (d : Rat) ≠ 0 := by simpa using hd
  rw [Rat.divInt_eq_div, h, Rat.div_def, Rat.mul_assoc, Rat.mul_inv_cancel _ hd', Rat.mul_one]
def nthI (ps : List Int) (k : Nat) : Int := ps[k]?.getD 0
theorem SeqOf.ix {A : D} {ps : List Int} (h : SeqOf A (ps.map .int)) {k : Nat} (hk : k < ps.length) (r : Rho) : ixD r A (.int k) = .ok (.int (nthI ps k)) := by
  have e : (ps.map D.int)[k]? = some (.int (nthI ps k)) := by
    rw [List.getElem?_map]
    unfold nthI
    rw [List.getElem?_eq_getElem hk]; rfl
  rcases h with rfl | rfl
  · exact ix_lst e
  · exact ix_tup e
structure Pok (ps : List Int) : Prop where
  l1 : 1 ≤ ps.length
  l6 : ps.length ≤ 6
  rg : ∀ i ∈ ps, -99 ≤ i ∧ i ≤ 99
  up : ps.Pairwise (· < ·)
theorem nthI_mem {ps : List Int} {k : Nat} (h : k < ps.length) : nthI ps k ∈ ps := by
  unfold nthI
  rw [List.getElem?_eq_getElem h]
  exact List.getElem_mem h
theorem Pok.sm {ps : List Int} (h : Pok ps) {k : Nat} (hk : k < ps.length) : Sm 7 (nthI ps k : Rat) := by
  have := h.rg _ (nthI_mem hk)
  exact int_sm (by omega) (by decide)
theorem Pok.lt {ps : List Int} (h : Pok ps) {j k : Nat} (hj : j < k) (hk : k < ps.length) : nthI ps j < nthI ps k := by
  unfold nthI
  rw [List.getElem?_eq_getElem hk, List.getElem?_eq_getElem (Nat.lt_trans hj hk)]
  exact (List.pairwise_iff_getElem.mp h.up) j k _ _ hj
end PL
end
section
namespace PL
open PySem PySem.Spec PyProof.Rows L2 PL.G
abbrev Rw := List (Int × Str)
structure Rok (b : Bk) (rw : Rw) : Prop where
  pl : Pok (rw.map (·.1))
  nm : ∀ x ∈ rw, x.2 ∈ nms b
theorem Rok.l1 {b : Bk} {rw : Rw} (h : Rok b rw) : 1 ≤ rw.length := by simpa using h.pl.l1
theorem Rok.l6 {b : Bk} {rw : Rw} (h : Rok b rw) : rw.length ≤ 6 := by simpa using h.pl.l6
end PL
end
section
namespace PL
open PySem PySem.Spec PyProof.Rows L2 PL.G
inductive Tr where
  | leaf (n : Str)
  | node (k : Str) (a b : Tr)
def Kn (x : Str) : Prop := F_is_name [.str x] = .ok (.bl true) ∧ PyData.strOk x = true
def Tok (N : List Str) : Tr → Prop
  | .leaf n => n ∈ N
  | .node k a b => Kn k ∧ Tok N a ∧ Tok N b
structure Stg (sv : Kv) : Prop where
  up : sv.Pairwise fun x y => strLt x.1 y.1 = true
  kn : ∀ x ∈ sv, Kn x.1
  pt : ∀ x ∈ sv, 0 ≤ x.2 ∧ x.2 ≤ 1
  sm : ∀ x ∈ sv, Sm 7 x.2
  ln : sv.length ≤ 60
structure Ptk (p : Str → Rat) : Prop where
  lo : ∀ k, 0 ≤ p k
  hi : ∀ k, p k ≤ 1
  sm : ∀ k, Sm 7 (p k)
end PL
end
section
namespace PL
open PySem PySem.Spec PyProof.Rows L2 PL.G
theorem if_yes {g : Rho → R Bool} {s1 s2 : Rho → R Fl} {r : Rho} (h : g r = .ok true) : fIfS g s1 s2 r = s1 r := by
  rw [x_fIfS, h]; rfl
section
variable {m : Nat} {b : Bk} (h : Bok m b) {p : Str → Rat} {ks : List (Key × D)} (hk : ∀ k, ((valD ks (.inr k)).getD (fr 0)) = fr (p k))
include h hk
end
theorem seenT_mem : ∀ (xs ks : List Str) (x : Str), x ∈ seenT ks xs ↔ x ∈ ks ∨ x ∈ xs
  | [], ks, x => by simp [seenT]
  | y :: xs, ks, x => by
    show x ∈ seenT (if y ∈ ks then ks else y :: ks) xs ↔ _
    rw [seenT_mem xs]
    split
    · rename_i hy
      constructor
      · rintro (q | q)
        · exact .inl q
        · exact .inr (List.mem_cons_of_mem _ q)
      · rintro (q | q)
        · exact .inl q
        · rcases List.mem_cons.mp q with rfl | q
          · exact .inl hy
          · exact .inr q
    · constructor
      · rintro (q | q)
        · rcases List.mem_cons.mp q with rfl | q
          · exact .inr List.mem_cons_self
          · exact .inl q
        · exact .inr (List.mem_cons_of_mem _ q)
      · rintro (q | q)
        · exact .inl (List.mem_cons_of_mem _ q)
        · rcases List.mem_cons.mp q with rfl | q
          · exact .inl List.mem_cons_self
          · exact .inr q
end PL
end
section
namespace PL
open PySem PySem.Spec PyProof.Rows L2 PL.G
structure Part (ns : List Int) (Fp : List D → R D) (Q : Int → Rat) : Prop where
  ok : ∀ a, 0 ≤ a → Fp [.scr ns, .int a] = .ok (fr (Q a))
  lo : ∀ a, 0 ≤ a → 0 ≤ Q a
  hi : ∀ a, 0 ≤ a → Q a ≤ 1
  sm : ∀ a, 0 ≤ a → Sm 7 (Q a)
end PL
end
section
namespace PL
open PySem PySem.Spec PyProof.Rows L2 PL.G
theorem one_sub (p : Rat) : (1 - p).num = p.den - p.num ∧ (1 - p).den = p.den := by
  have e := sub_divInt 1 p
  have e1 : (1 : Rat).num * p.den - p.num * (1 : Rat).den = p.den - p.num := by
    show 1 * (p.den : Int) - p.num * 1 = _
    omega
  have e2 : (((1 : Rat).den : Nat) : Int) * (p.den : Int) = p.den := by
    show 1 * (p.den : Int) = _
    omega
  rw [e1, e2] at e
  have hp : (0 : Int) < p.den := by have := p.den_pos; omega
  have g : Int.gcd (p.den - p.num) p.den = 1 := by
    have d1 := Int.gcd_dvd_left (a := p.den - p.num) (b := p.den)
    have d2 := Int.gcd_dvd_right (a := p.den - p.num) (b := p.den)
    have d3 : ((Int.gcd (p.den - p.num) p.den : Nat) : Int) ∣ p.num := by
      have := Int.dvd_sub d2 d1
      have z : (p.den : Int) - (p.den - p.num) = p.num := by omega
      rw [z] at this
      exact this
    have d4 := Int.dvd_gcd d3 d2
    have r : Int.gcd p.num p.den = 1 := by
      have := p.reduced
      simpa [Int.gcd] using this
    rw [r] at d4
    exact Nat.dvd_one.mp d4
  rw [← e]
  refine ⟨?_, ?_⟩
  · rw [share_num hp, g]; simp
  · have := share_den (u := p.den - p.num) hp
    rw [g] at this
    have h2 : (((Rat.divInt (p.den - p.num) p.den).den : Nat) : Int) = p.den := by rw [this]; simp
    exact Int.ofNat.inj h2
def sst (s : Int × Int) (q : Rat) : Int × Int := (s.1 * q.den + q.num * s.2, s.2 * q.den)
theorem sst_fold (qs : List Rat) : ∀ (s : Int × Int) (S : Rat), 0 < s.2 → (s.1 : Rat) = S * (s.2 : Rat) → 0 < (qs.foldl sst s).2 ∧ ((qs.foldl sst s).1 : Rat) = (S + sumR qs) * ((qs.foldl sst s).2 : Rat) := by
  induction qs with
  | nil => intro s S h0 h; refine ⟨h0, ?_⟩; rw [sumR_nil, Rat.add_zero]; exact h
  | cons q qs ih =>
    intro s S h0 h
    have e := ndq q
    have i := ih (sst s q) (S + q) (Int.mul_pos h0 (by have := q.den_pos; omega)) (by
      show ((s.1 * q.den + q.num * s.2 : Int) : Rat) = (S + q) * ((s.2 * q.den : Int) : Rat)
      rw [Rat.intCast_add, Rat.intCast_mul, Rat.intCast_mul, Rat.intCast_mul, h, e]
      grind)
    refine ⟨i.1, ?_⟩
    rw [List.foldl_cons, i.2, sumR_cons]
    grind
theorem F_lawsum {k : Nat} {A : D} {qs : List Rat} (hA : SeqOf A (qs.map fr)) (hs : ∀ q ∈ qs, Sm k q) (hb : (k + 1) * qs.length ≤ 8000) : F_u_law_sum [A] = .ok (fr (sumR qs)) := by
  have fo := forGo_fold (t := .nm 1) (fb := fPar 2 3 (fCons (fBin addD (fBin mulD (fVar 2) (fBin ixD (fVar 1) (fK (.int 1)))) (fBin mulD (fBin ixD (fVar 1) (fK (.int 0))) (fVar 3))) (fCons (fBin mulD (fVar 3) (fBin ixD (fVar 1) (fK (.int 1)))) fNil))) fr (fun s : (Int × Int) × Sl => [.im A, s.2, .im (.int s.1.1), .im (.int s.1.2)]) (fun s q => (sst s.1 q, .im (fr q)))
    (fun xs s => (∀ q ∈ xs, Sm k q) ∧ ∃ c, s.1.1.natAbs < 2 ^ c ∧ s.1.2.natAbs < 2 ^ c ∧ c + (k + 1) * xs.length ≤ 8001) qs ((0, 1), .un) ⟨hs, 1, by simp, by simp, by omega⟩ (fun q xs s hP => by
      obtain ⟨p1, c, p2, p3, p4⟩ := hP
      rw [List.length_cons, Nat.mul_succ] at p4
      have hq := p1 q List.mem_cons_self
      have hd : ((q.den : Int)).natAbs < 2 ^ k := by simpa using hq.2
      have b1 := mul_bits p2 hd
      have b2 := mul_bits hq.1 p3
      have b3 := mul_bits p3 hd
      rw [Nat.add_comm k c] at b2
      have b4 := add_bits b1 b2
      have m1 : mulB s.1.1 q.den = true := mulB_bits p2 hd (by omega)
      have m2 : mulB q.num s.1.2 = true := mulB_bits hq.1 p3 (by omega)
      have m3 : mulB s.1.2 q.den = true := mulB_bits p3 hd (by omega)
      refine ⟨⟨fun x hx => p1 x (List.mem_cons_of_mem _ hx), c + k + 1, b4, Nat.lt_of_lt_of_le b3 (Nat.pow_le_pow_right (by decide) (by omega)), by omega⟩, [.im A, .im (fr q), .im (.int s.1.1), .im (.int s.1.2)], by simp, .inl ?_⟩
      simp [m1, m2, m3, sst])
  obtain ⟨s', hs'⟩ : ∃ s' : (Int × Int) × Sl, s' = qs.foldl (fun (s : (Int × Int) × Sl) q => (sst s.1 q, Sl.im (fr q))) ((0, 1), .un) := ⟨_, rfl⟩
  rw [← hs'] at fo
  have q2 : ∀ (xs : List Rat) (s : (Int × Int) × Sl), (xs.foldl (fun (s : (Int × Int) × Sl) q => (sst s.1 q, Sl.im (fr q))) s).1 = xs.foldl sst s.1 := fun xs => by
    induction xs with
    | nil => intro s; rfl
    | cons x xs ih => intro s; exact ih _
  have e1 : s'.1 = qs.foldl sst (0, 1) := by rw [hs', q2]
  obtain ⟨i1, i2⟩ := sst_fold qs (0, 1) 0 (by decide) (by simp)
  rw [← e1] at i1 i2
  have bits : ∀ (xs : List Rat) (c : Nat) (s : Int × Int), (∀ q ∈ xs, Sm k q) → s.2.natAbs < 2 ^ c → (xs.foldl sst s).2.natAbs < 2 ^ (c + k * xs.length) := fun xs => by
    induction xs with
    | nil => intro c s _ h; simpa using h
    | cons q xs ih =>
      intro c s hq h
      have hd : ((q.den : Int)).natAbs < 2 ^ k := by simpa using (hq q List.mem_cons_self).2
      have := ih (c + k) (sst s q) (fun x hx => hq x (List.mem_cons_of_mem _ hx)) (mul_bits h hd)
      rw [List.length_cons, Nat.mul_succ]
      have e : c + (k * xs.length + k) = c + k + k * xs.length := by omega
      rw [e]
      exact this
  have b2 := bits qs 1 (0, 1) hs (by decide)
  rw [← e1] at b2
  have lo := F_low_ok (u := s'.1.1) (d := s'.1.2) (n := 1 + k * qs.length) (by omega) b2 (by rw [Nat.succ_mul] at hb; omega)
  rw [divInt_is (q := sumR qs) (by omega) (by rw [i2]; grind)] at lo
  refine run_rt (r0 := [.im A, .un, .un, .un]) rfl ?_
  refine seq_go (r' := [.im A, .un, .im (.int 0), .im (.int 1)]) rfl ?_
  refine seq_go (for_go (ds := qs.map fr) (hA.items false _) fo) ?_
  exact ret_of (call_2 (a := .int s'.1.1) (b := .int s'.1.2) rfl rfl rfl rfl lo) rfl
theorem seenT_nodup : ∀ (xs ks : List Str), ks.Nodup → (seenT ks xs).Nodup
  | [], _, h => h
  | x :: xs, ks, h => by
    show (seenT (if x ∈ ks then ks else x :: ks) xs).Nodup
    refine seenT_nodup xs _ ?_
    split
    · exact h
    · rename_i q
      exact List.nodup_cons.mpr ⟨q, h⟩
theorem wSum_filter (ps : Kv) (n : Str) : sumR ((ps.filter fun x => decide (x.1 = n)).map (·.2)) = wSum ps n := by
  rw [wSum_eq]
  induction ps with
  | nil => rfl
  | cons x ps ih =>
    rw [List.map_cons, sumR_cons]
    by_cases e : x.1 = n
    · rw [List.filter_cons_of_pos (by simp [e]), List.map_cons, sumR_cons, ih, if_pos e]
    · rw [List.filter_cons_of_neg (by simp [e]), ih, if_neg e]
      grind
theorem F_lawgathered {N : List Str} {ps : Kv} {k : Nat} (hN : Up N) (hN2 : ∀ n ∈ N, PyData.strOk n = true) (hp : ∀ x ∈ ps, x.1 ∈ N ∧ Sm k x.2) (hl : ps.length ≤ 60) (hb : (k + 1) * ps.length ≤ 7000) : F_u_law_gathered [.lst (ps.map pr)] = .ok (.lst ((canon N (wSum ps)).map pr)) := by
  have l1 : fLc [4, 5] (.tp [(.nm 4), (.nm 5)]) (fIt true (fVar 0)) (fun _ => .ok true) (fVar 4) [.im (.lst (ps.map pr)), .ol [], .un, .un, .un, .un] = .ok ((ps.map (·.1)).map .str) := by
    refine fLc_ok (X := ps.map pr) rfl (by simp; omega) ?_
    have key : ∀ x ∈ ps, ∃ r2, setT (.tp [(.nm 4), (.nm 5)]) (pr x) [.im (.lst (ps.map pr)), .ol [], .un, .un, .un, .un] = .ok r2 ∧ fVar 4 r2 = .ok (.str x.1) ∧ noOwn (.str x.1) = true := fun x _ => ⟨[.im (.lst (ps.map pr)), .ol [], .un, .un, .im (.str x.1), .im (fr x.2)], rfl, rfl, rfl⟩
    have q := lcGo_all pr (fun x => D.str x.1) ps key
    refine q.trans ?_
    rw [List.map_map]
    rfl
  obtain ⟨ks, hks⟩ : ∃ ks, ks = srtT (seenT [] (ps.map (·.1))) := ⟨_, rfl⟩
  have ss : fL (fSortSet (fL (fLc [4, 5] (.tp [(.nm 4), (.nm 5)]) (fIt true (fVar 0)) (fun _ => .ok true) (fVar 4)))) [.im (.lst (ps.map pr)), .ol [], .un, .un, .un, .un] = .ok (.lst (ks.map .str)) := by
    refine fL_of ?_
    unfold fSortSet
    rw [fL_of l1, bnd_ok]
    show (match strsOf ((ps.map (·.1)).map D.str) with
      | some xs => if decide (xs.length < 64) then R.ok ((srtT (seenT [] xs)).map D.str) else .stuck
      | none => .stuck) = _
    rw [strsOf_map]
    dsimp only
    rw [if_pos (decide_eq_true (by rw [List.length_map]; omega)), hks]
  have kmem : ∀ n, n ∈ ks ↔ n ∈ ps.map (·.1) := fun n => by
    rw [hks, (srtT_perm _).mem_iff, seenT_mem]
    simp
  have knd : (seenT [] (ps.map (·.1))).Nodup := seenT_nodup _ _ List.nodup_nil
  have klen : ks.length ≤ ps.length := by
    rw [hks, (srtT_perm _).length_eq]
    have := seenT_len (ps.map (·.1)) []
    simpa using this
  have fo := forGo_fold (t := .nm 2) (fb := (fSeq (fAsg (.nm 3) (fCall 1 F_u_law_sum (fCons (fL (fLc [4, 5] (.tp [(.nm 4), (.nm 5)]) (fIt true (fVar 0)) (fTest (fBin eqD (fVar 4) (fVar 2))) (fVar 5))) fNil)))
    (fExt 1 (fIf (fTest (fBin neD (fVar 3) (fTup (fCons (fK (.int 0)) (fCons (fK (.int 1)) fNil))))) (fL (fLst (fCons (fTup (fCons (fVar 2) (fCons (fVar 3) fNil))) fNil))) (fL (fLst fNil)))))) D.str (fun s : List D × Sl × Sl => [.im (.lst (ps.map pr)), .ol s.1, s.2.1, s.2.2, .un, .un])
    (fun s n => (s.1 ++ (if decide (wSum ps n ≠ 0) then [pr (n, wSum ps n)] else []), .im (.str n), .im (fr (wSum ps n)))) (fun xs s => (∀ n ∈ xs, n ∈ ks) ∧ s.1.length + xs.length ≤ 100) ks ([], .un, .un) ⟨fun n hn => hn, by simp; omega⟩ (fun n xs s hP => by
      obtain ⟨p1, p2⟩ := hP
      have hn := p1 n List.mem_cons_self
      rw [List.length_cons] at p2
      have nN : n ∈ N := by
        obtain ⟨x, hx, rfl⟩ := List.mem_map.mp ((kmem n).mp hn)
        exact (hp x hx).1
      refine ⟨⟨fun y hy => p1 y (List.mem_cons_of_mem _ hy), by
        have : (if decide (wSum ps n ≠ 0) then [pr (n, wSum ps n)] else []).length ≤ 1 := by split <;> simp
        simp only [List.length_append]
        omega⟩, [.im (.lst (ps.map pr)), .ol s.1, .im (.str n), s.2.2, .un, .un], by simp, .inl ?_⟩
      have lf : fLc [4, 5] (.tp [(.nm 4), (.nm 5)]) (fIt true (fVar 0)) (fTest (fBin eqD (fVar 4) (fVar 2))) (fVar 5) [.im (.lst (ps.map pr)), .ol s.1, .im (.str n), s.2.2, .un, .un] = .ok (((ps.filter fun x => decide (x.1 = n)).map (·.2)).map fr) := by
        refine fLc_ok (X := ps.map pr) rfl (by simp; omega) ?_
        have key : ∀ x ∈ ps, ∃ r2, setT (.tp [(.nm 4), (.nm 5)]) (pr x) [.im (.lst (ps.map pr)), .ol s.1, .im (.str n), s.2.2, .un, .un] = .ok r2 ∧ fTest (fBin eqD (fVar 4) (fVar 2)) r2 = .ok (decide (x.1 = n)) ∧ (decide (x.1 = n) = true → fVar 5 r2 = .ok (fr x.2) ∧ noOwn (fr x.2) = true) := fun x hx => by
          refine ⟨[.im (.lst (ps.map pr)), .ol s.1, .im (.str n), s.2.2, .im (.str x.1), .im (fr x.2)], rfl, ?_, fun _ => ⟨rfl, rfl⟩⟩
          have e := eqD_str (r := [.im (.lst (ps.map pr)), .ol s.1, .im (.str n), s.2.2, .im (.str x.1), .im (fr x.2)]) (hN2 x.1 (hp x hx).1) (hN2 n nN)
          have e2 : (x.1 == n) = decide (x.1 = n) := by by_cases z : x.1 = n <;> simp [z]
          rw [e2] at e
          rw [x_fTest, x_fBin, x_fVar, x_fVar]
          show ((eqD _ (.str x.1) (.str n)).bnd boolOf) = _
          rw [e]
          rfl
        have q := lcGo_typed pr (fun x => decide (x.1 = n)) (fun x => fr x.2) ps key
        refine q.trans ?_
        rw [List.map_map]
        rfl
      have su := F_lawsum (A := .lst (((ps.filter fun x => decide (x.1 = n)).map (·.2)).map fr)) (k := k) (.inl rfl) (fun q hq => by
        obtain ⟨x, hx, rfl⟩ := List.mem_map.mp hq
        exact (hp x (List.mem_filter.mp hx).1).2) (by
          rw [List.length_map]
          have := Nat.mul_le_mul_left (k + 1) (List.length_filter_le (fun x : Str × Rat => decide (x.1 = n)) ps)
          omega)
      rw [wSum_filter] at su
      refine seq_go (r' := [.im (.lst (ps.map pr)), .ol s.1, .im (.str n), .im (fr (wSum ps n)), .un, .un]) (asg_to (call_1 (fL_of lf) rfl su) rfl (by simp) rfl) ?_
      have tst : fTest (fBin neD (fVar 3) (fTup (fCons (fK (.int 0)) (fCons (fK (.int 1)) fNil)))) [.im (.lst (ps.map pr)), .ol s.1, .im (.str n), .im (fr (wSum ps n)), .un, .un] = .ok (decide (wSum ps n ≠ 0)) := by
        rw [x_fTest, x_fBin, x_fVar]
        show ((neD _ (fr (wSum ps n)) (fr 0)).bnd boolOf) = _
        rw [neD_fr]
        simp
      have z1 : s.1.length + 1 ≤ sizeLine := sz_le (by omega)
      rw [x_fExt]
      show ((fIf _ _ _ _).bnd _) = _
      rw [x_fIf, tst, bnd_ok]
      by_cases e : wSum ps n ≠ 0
      · rw [decide_eq_true e]
        show (if decide (s.1.length + 1 ≤ sizeLine) then R.ok (Fl.nx [.im (.lst (ps.map pr)), .ol (s.1 ++ [pr (n, wSum ps n)]), .im (.str n), .im (fr (wSum ps n)), .un, .un]) else .stuck) = _
        rw [if_pos (decide_eq_true z1)]
        rfl
      · rw [decide_eq_false e]
        show (if decide (s.1.length + 0 ≤ sizeLine) then R.ok (Fl.nx [.im (.lst (ps.map pr)), .ol (s.1 ++ []), .im (.str n), .im (fr (wSum ps n)), .un, .un]) else .stuck) = _
        rw [if_pos (decide_eq_true (by omega))]
        rfl)
  have q2 : ∀ (xs : List Str) (s : List D × Sl × Sl), (xs.foldl (fun (s : List D × Sl × Sl) n => (s.1 ++ (if decide (wSum ps n ≠ 0) then [pr (n, wSum ps n)] else []), Sl.im (.str n), Sl.im (fr (wSum ps n)))) s).1 = s.1 ++ (xs.filter fun n => decide (wSum ps n ≠ 0)).map fun n => pr (n, wSum ps n) := fun xs => by
    induction xs with
    | nil => intro s; simp
    | cons x xs ih =>
      intro s
      rw [List.foldl_cons, ih]
      by_cases e : wSum ps x ≠ 0
      · rw [List.filter_cons_of_pos (by simp [e])]
        simp [e]
      · rw [List.filter_cons_of_neg (by simp at e; simp [e])]
        simp at e
        simp [e]
  rw [q2, hks, filter_eq hN knd (fun x hx => by
    rcases (seenT_mem _ _ _).mp hx with q | q
    · cases q
    · obtain ⟨y, hy, rfl⟩ := List.mem_map.mp q
      exact (hp y hy).1) (fun x hx hpx => by
        refine (seenT_mem _ _ _).mpr (.inr ?_)
        rcases Classical.em (x ∈ ps.map (·.1)) with c | c
        · exact c
        · exfalso
          have z : wSum ps x = 0 := by
            rw [wSum_eq]
            exact sumR_zero ps _ fun y hy => if_neg fun q : y.1 = x => c (q ▸ List.mem_map.mpr ⟨y, hy, rfl⟩)
          simp [z] at hpx)] at fo
  refine run_rt (r0 := [.im (.lst (ps.map pr)), .un, .un, .un, .un, .un]) rfl ?_
  refine seq_go (r' := [.im (.lst (ps.map pr)), .ol [], .un, .un, .un, .un]) rfl ?_
  refine seq_go (for_go (ds := ks.map .str) (by rw [x_fIt, ss]; rfl) (by rw [hks]; exact fo)) ?_
  have e3 : (canon N (wSum ps)).map pr = (N.filter fun n => decide (wSum ps n ≠ 0)).map fun n => pr (n, wSum ps n) := by
    unfold canon
    rw [List.map_map]
    rfl
  rw [e3]
  rfl
theorem lc_scaledL {l c : Nat} {r : Rho} {A : D} {ps : Kv} {p : Rat} {k k2 : Nat} (hr : r.length = 7) (hl7 : l < 5) (hc7 : c < 5) (hA : SeqOf A (ps.map pr)) (hl : ps.length ≤ 1000) (hc : r[c]? = some (.im (fr p))) (ha : r[l]? = some (.im A)) (hs : ∀ x ∈ ps, Sm k x.2) (hp : Sm k2 p) (hk : k + k2 ≤ 8000) :
    fLc [5, 6] (.tp [(.nm 5), (.nm 6)]) (fIt true (fVar l)) (fun _ => .ok true) (fTup (fCons (fVar 5) (fCons (fCall 2 F_u_law_low (fCons (fBin mulD (fBin ixD (fVar 6) (fK (.int 0))) (fBin ixD (fVar c) (fK (.int 0)))) (fCons (fBin mulD (fBin ixD (fVar 6) (fK (.int 1))) (fBin ixD (fVar c) (fK (.int 1)))) fNil))) fNil))) r = .ok ((ps.map fun x => (x.1, x.2 * p)).map pr) := by
  refine fLc_ok (X := ps.map pr) (by rw [x_fIt, x_fVar, ha]; exact hA.items true _) (by simp; omega) ?_
  have key : ∀ x ∈ ps, ∃ r2, setT (.tp [(.nm 5), (.nm 6)]) (pr x) (wipeR r [5, 6]) = .ok r2 ∧ fTup (fCons (fVar 5) (fCons (fCall 2 F_u_law_low (fCons (fBin mulD (fBin ixD (fVar 6) (fK (.int 0))) (fBin ixD (fVar c) (fK (.int 0)))) (fCons (fBin mulD (fBin ixD (fVar 6) (fK (.int 1))) (fBin ixD (fVar c) (fK (.int 1)))) fNil))) fNil)) r2 = .ok (pr (x.1, x.2 * p)) ∧ noOwn (pr (x.1, x.2 * p)) = true := fun x hx => by
    refine ⟨((wipeR r [5, 6]).set 5 (.im (.str x.1))).set 6 (.im (fr x.2)), by simp [pr, hr], ?_, rfl⟩
    have sx := hs x hx
    have dx : ((x.2.den : Int)).natAbs < 2 ^ k := by simpa using sx.2
    have dp : ((p.den : Int)).natAbs < 2 ^ k2 := by simpa using hp.2
    have m1 : mulB x.2.num p.num = true := mulB_bits sx.1 hp.1 (by omega)
    have m2 : mulB x.2.den p.den = true := mulB_bits dx dp (by omega)
    have lo := F_low_ok (u := x.2.num * p.num) (d := x.2.den * p.den) (n := k + k2) (den_mul_ne x.2 p) (mul_bits dx dp) (by omega)
    rw [mul_divInt] at lo
    have g1 : (((wipeR r [5, 6]).set 5 (.im (.str x.1))).set 6 (.im (fr x.2)))[5]? = some (.im (.str x.1)) := by
      rw [List.getElem?_set_ne (by decide), List.getElem?_set_self (by simp [hr])]
    have g2 : (((wipeR r [5, 6]).set 5 (.im (.str x.1))).set 6 (.im (fr x.2)))[6]? = some (.im (fr x.2)) := by
      rw [List.getElem?_set_self (by simp [hr])]
    have g3 : (((wipeR r [5, 6]).set 5 (.im (.str x.1))).set 6 (.im (fr x.2)))[c]? = some (.im (fr p)) := by
      rw [List.getElem?_set_ne (by omega), List.getElem?_set_ne (by omega)]
      simp only [x_wipeR_cons, x_wipeR_nil]
      rw [List.getElem?_set_ne (by omega), List.getElem?_set_ne (by omega)]
      exact hc
    have cc := call_2 (F := F_u_law_low) (r := ((wipeR r [5, 6]).set 5 (.im (.str x.1))).set 6 (.im (fr x.2))) (fa := fBin mulD (fBin ixD (fVar 6) (fK (.int 0))) (fBin ixD (fVar c) (fK (.int 0)))) (fb := fBin mulD (fBin ixD (fVar 6) (fK (.int 1))) (fBin ixD (fVar c) (fK (.int 1)))) (a := .int (x.2.num * p.num)) (b := .int (x.2.den * p.den)) (by
      rw [x_fBin, x_fBin, x_fBin, x_fVar, x_fVar, g2, g3]
      simp [m1]) rfl (by
      rw [x_fBin, x_fBin, x_fBin, x_fVar, x_fVar, g2, g3]
      simp [m2]) rfl lo
    rw [x_fTup, x_fCons, x_fVar, g1, x_fCons, cc]
    simp [pr]
  refine (lcGo_all pr (fun x => pr (x.1, x.2 * p)) ps key).trans ?_
  rw [List.map_map]
  rfl
theorem F_lawled {N : List Str} {k k2 : Nat} {w v : Str → Rat} {p : Rat} {A B : D} (hN : Up N) (hN2 : ∀ n ∈ N, PyData.strOk n = true) (hl : N.length ≤ 30) (hw : ∀ n ∈ N, Sm k (w n)) (hv : ∀ n ∈ N, Sm k (v n)) (hp : Sm k2 p) (hA : SeqOf A ((canon N w).map pr)) (hB : SeqOf B ((canon N v).map pr)) (hk : (k + k2 + 3) * (N.length + N.length) ≤ 7000) (hk' : k + k2 ≤ 7000) :
    F_u_law_led [A, B, fr p] = .ok (.lst ((canon N (mixW w v p)).map pr)) := by
  have cl1 := canon_len N w
  have cl2 := canon_len N v
  obtain ⟨o1, o2⟩ := one_sub p
  have sr := sm_one.sub hp
  have l1 := lc_scaledL (l := 0) (c := 3) (r := [.im A, .im B, .im (fr p), .im (fr (1 - p)), .un, .un, .un]) rfl (by decide) (by decide) hA (by omega) rfl rfl (canon_sm hw) sr (by omega)
  have l2 := lc_scaledL (l := 1) (c := 2) (r := [.im A, .im B, .im (fr p), .im (fr (1 - p)), .im (.lst (((canon N w).map fun x => (x.1, x.2 * (1 - p))).map pr)), .un, .un]) rfl (by decide) (by decide) hB (by omega) rfl rfl (canon_sm hv) hp (by omega)
  have g := F_lawgathered (N := N) (ps := ((canon N w).map fun x => (x.1, x.2 * (1 - p))) ++ ((canon N v).map fun x => (x.1, x.2 * p))) (k := k + (1 + k2 + 1)) hN hN2 (fun x hx => by
    rcases List.mem_append.mp hx with hx | hx
    · obtain ⟨y, hy, rfl⟩ := List.mem_map.mp hx
      exact ⟨(canon_mem.mp hy).1, (canon_sm hw y hy).mul sr⟩
    · obtain ⟨y, hy, rfl⟩ := List.mem_map.mp hx
      exact ⟨(canon_mem.mp hy).1, ((canon_sm hv y hy).mul hp).mono (by omega)⟩) (by simp; omega) (by
        rw [List.length_append, List.length_map, List.length_map]
        have := Nat.mul_le_mul_left (k + k2 + 3) (Nat.add_le_add cl1 cl2)
        have e : k + (1 + k2 + 1) + 1 = k + k2 + 3 := by omega
        rw [e]
        omega)
  rw [canon_congr (w := wSum (((canon N w).map fun x => (x.1, x.2 * (1 - p))) ++ ((canon N v).map fun x => (x.1, x.2 * p)))) (v := mixW w v p) (fun n hn => by rw [wSum_append, wSum_scaled hN.nodup _ _ hn, wSum_scaled hN.nodup _ _ hn]; rfl)] at g
  refine run_rt (r0 := [.im A, .im B, .im (fr p), .un, .un, .un, .un]) rfl ?_
  refine seq_go (r' := [.im A, .im B, .im (fr p), .im (fr (1 - p)), .un, .un, .un]) (asg_to (d := fr (1 - p)) (by
    unfold fr
    rw [o1, o2]
    rfl) rfl (by simp) rfl) ?_
  refine seq_go (r' := [.im A, .im B, .im (fr p), .im (fr (1 - p)), .im (.lst (((canon N w).map fun x => (x.1, x.2 * (1 - p))).map pr)), .un, .un]) (asg_to (fL_of l1) rfl (by simp) rfl) ?_
  refine ret_of (call_1 (a := .lst ((((canon N w).map fun x => (x.1, x.2 * (1 - p))) ++ ((canon N v).map fun x => (x.1, x.2 * p))).map pr)) ?_ rfl g) rfl
  rw [x_fBin]
  show ((fL _ _).bnd fun y => addD _ _ y) = _
  refine (congrArg (fun z => R.bnd z _) (fL_of l2)).trans ?_
  rw [bnd_ok, x_addD_lst, if_pos (decide_eq_true (sz_le (by simp; omega))), List.map_append]
end PL
end
section
namespace PL
open PySem PySem.Spec PyProof.Rows L2 PL.G
def isNmS (x : Str) : Bool := (decide (1 ≤ x.length) && decide (x.length ≤ 6)) && x.cps.toList.all fun c => decide (c ∈ (Str.ofString "abcdefghijklmnopqrstuvwxyz").cps.toList)
def isNmD : D → Bool
  | .str x => isNmS x
  | _ => false
theorem F_isnameS {x : Str} (hl : x.length ≤ 100) : F_is_name [.str x] = .ok (.bl (isNmS x)) := by
  have q : fLc [1] (.nm 1) (fIt true (fVar 0)) (fun _ => .ok true) (fBin (inG false) (fVar 1) (fK d_SMALL)) [.im (.str x), .un] = .ok ((x.cps.toList.map fun c => decide (c ∈ (Str.ofString "abcdefghijklmnopqrstuvwxyz").cps.toList)).map D.bl) := by
    refine fLc_ok (X := signs x) (by simp [itemsD]) ?_ ?_
    · have : (signs x).length = x.length := by simp [signs, Str.length]
      omega
    · have q := lcGo_all (t := .nm 1) (fe := fBin (inG false) (fVar 1) (fK d_SMALL)) (r := wipeR [.im (.str x), .un] [1]) (fun c : Nat => D.str ⟨#[c]⟩) (fun c => D.bl (decide (c ∈ (Str.ofString "abcdefghijklmnopqrstuvwxyz").cps.toList))) x.cps.toList (fun c _ => ⟨[.im (.str x), .im (.str ⟨#[c]⟩)], by simp, by
        have e : inG false [.im (.str x), .im (.str ⟨#[c]⟩)] (.str ⟨#[c]⟩) d_SMALL = .ok (.bl (decide (c ∈ (Str.ofString "abcdefghijklmnopqrstuvwxyz").cps.toList))) := rfl
        simp [e], rfl⟩)
      rw [List.map_map]
      exact q
  have al : fCallB (allD fun bs => bs.all id) (fConsB (fL (fLc [1] (.nm 1) (fIt true (fVar 0)) (fun _ => .ok true) (fBin (inG false) (fVar 1) (fK d_SMALL)))) fNil) [.im (.str x), .un] = .ok (.bl (x.cps.toList.all fun c => decide (c ∈ (Str.ofString "abcdefghijklmnopqrstuvwxyz").cps.toList))) := by
    rw [x_fCallB, x_fConsB, x_fL, q]
    simp only [bnd_ok, x_fNil]
    unfold allD viewL
    simp only [boolsOf_map]
    rw [List.all_map]
    rfl
  have ln : ∀ r, lenD r [.str x] = .ok (.int x.length) := fun r => by
    unfold lenD
    simp [show x.length ≤ sizeLine from sz_le (by omega)]
  have lg : d_LONGEST = .int 6 := rfl
  refine run_rt (r0 := [.im (.str x), .un]) rfl ?_
  unfold isNmS
  unfold B_is_name
  rw [x_fRet, x_fAndV, show fIsi ["str"] (fVar 0) [.im (.str x), .un] = .ok (.bl true) from rfl, bnd_ok, x_boolOf, bnd_ok, if_pos rfl, x_fAndV]
  have ch : fChain leD leD (fK (.int 1)) (fCallB lenD (fConsB (fVar 0) fNil)) (fK d_LONGEST) [.im (.str x), .un] = .ok (.bl (decide (1 ≤ x.length) && decide (x.length ≤ 6))) := by
    by_cases h1 : 1 ≤ x.length
    · have h1' : (1 : Int) ≤ x.length := by omega
      by_cases h6 : x.length ≤ 6
      · have h6' : (x.length : Int) ≤ 6 := by omega
        simp [ln, lg, h1, h6, h1', h6']
      · have h6' : ¬ (x.length : Int) ≤ 6 := by omega
        simp [ln, lg, h1, h6, h1', h6']
    · have h1' : ¬ (1 : Int) ≤ x.length := by omega
      simp [ln, lg, h1, h1']
  rw [ch, bnd_ok, x_boolOf, bnd_ok]
  cases (decide (1 ≤ x.length) && decide (x.length ≤ 6)) with
  | false => rfl
  | true => rw [if_pos rfl, al]; rfl
theorem F_isnameD {w n : Nat} {d : D} (h : Lv w n d) : F_is_name [d] = .ok (.bl (isNmD d)) := by
  rcases h.cases2 with rfl | ⟨b, rfl⟩ | ⟨i, rfl, hi⟩ | ⟨x, rfl, _, hl⟩ | ⟨ds, rfl, _⟩
  · simp [F_is_name, x_runF, B_is_name, isNmD]
  · simp [F_is_name, x_runF, B_is_name, isNmD]
  · simp [F_is_name, x_runF, B_is_name, isNmD]
  · exact F_isnameS hl
  · simp [F_is_name, x_runF, B_is_name, isNmD]
def hasD (b : Bk) : D → Bool
  | .str x => decide (x ∈ nms b)
  | _ => false
theorem nm_len {x : Str} (h : Nm x) : x.length ≤ 100 := h.2.2.1
theorem F_hasD {m w n : Nat} {b : Bk} {d : D} (h : Bok m b) (hd : Lv w n d) : F_has_name [bkD b, d] = .ok (.bl (hasD b d)) := by
  have e := F_isnameD hd
  have im := hd.im
  have h6 := h.l6
  cases hn : isNmD d with
  | false =>
    have z : hasD b d = false := by
      cases d <;> first | rfl | skip
      rename_i x
      show decide (x ∈ nms b) = false
      refine decide_eq_false fun hx => ?_
      have nx := h.nmOk hx
      have e1 := nm_name nx
      have e2 := F_isnameS (nm_len nx)
      rw [e1] at e2
      injection e2 with e2
      injection e2 with e2
      rw [show isNmD (.str x) = isNmS x from rfl, ← e2] at hn
      cases hn
    rw [z]
    rw [hn] at e
    simp only [F_has_name, x_runF, B_has_name]
    simp [e, im]
  | true =>
    obtain ⟨x, rfl⟩ : ∃ x, d = .str x := by cases d <;> first | exact ⟨_, rfl⟩ | cases hn
    rw [hn] at e
    have l := lc_firsts (i := 2) (r := [.im (bkD b), .im (.str x), .un]) (fi := fIt true (fVar 0)) (b := b) rfl (by omega) (by simp)
    refine run_rt (r0 := [.im (bkD b), .im (.str x), .un]) rfl ?_
    refine ret_of ?_ rfl
    rw [x_fAndV, call_1 (a := .str x) rfl rfl e]
    simp only [bnd_ok, x_boolOf, if_true]
    rw [x_fBin, fL_of l, x_fVar]
    exact in_strs [.im (bkD b), .im (.str x), .un] false x (nms b)
def okPr (b : Bk) : D → Bool
  | .tup [.str n, .tup [.int a, .int c]] => decide (n ∈ nms b) && ((decide (0 < c) && a.gcd c == 1) && decide (0 < a))
  | _ => false
def nmOf : D → Str
  | .tup (.str n :: _) => n
  | _ => Str.ofString ""
def frOf : D → Rat
  | .tup [_, .tup [.int a, .int c]] => Rat.divInt a c
  | _ => 0
theorem okPr_inv {b : Bk} {d : D} (h : okPr b d = true) : ∃ n q, d = pr (n, q) ∧ n ∈ nms b ∧ 0 < q ∧ nmOf d = n ∧ frOf d = q := by
  unfold okPr at h
  split at h
  · rename_i n a c
    simp only [Bool.and_eq_true, decide_eq_true_eq, beq_iff_eq] at h
    obtain ⟨h1, ⟨h2, h3⟩, h4⟩ := h
    have e1 := share_num (u := a) h2
    have e2 := share_den (u := a) h2
    rw [h3] at e1 e2
    simp only [Int.cast_ofNat_Int, Int.ediv_one] at e1 e2
    have f : fr (Rat.divInt a c) = .tup [.int a, .int c] := by
      unfold fr
      rw [e2]
      congr 3
    refine ⟨n, Rat.divInt a c, by unfold pr; rw [f], h1, ?_, rfl, rfl⟩
    have n0 : (Rat.divInt a c).num = a := by simpa using e1
    have p0 : 0 ≤ Rat.divInt a c := Rat.num_nonneg.mp (by omega)
    have z0 : Rat.divInt a c ≠ 0 := fun z => by rw [z] at n0; simp at n0; omega
    grind
  · cases h
def upB : List Str → Bool
  | a :: b :: r => strLt a b && upB (b :: r)
  | _ => true
theorem strLt_tr {a b c : Str} (h1 : strLt a b = true) (h2 : strLt b c = true) : strLt a c = true := by
  unfold strLt at *
  exact decide_eq_true (List.lt_trans (of_decide_eq_true h1) (of_decide_eq_true h2))
theorem upB_iff : ∀ xs : List Str, upB xs = true ↔ Up xs
  | [] => by simp [upB, Up]
  | [a] => by simp [upB, Up]
  | a :: b :: r => by
    have ih := upB_iff (b :: r)
    simp only [upB, Bool.and_eq_true, ih]
    constructor
    · rintro ⟨h1, h2⟩
      refine List.pairwise_cons.mpr ⟨fun x hx => ?_, h2⟩
      rcases List.mem_cons.mp hx with rfl | hx
      · exact h1
      · exact strLt_tr h1 ((List.pairwise_cons.mp h2).1 x hx)
    · intro h
      exact ⟨(List.pairwise_cons.mp h).1 b List.mem_cons_self, (List.pairwise_cons.mp h).2⟩
def shD (b : Bk) (xs : List D) : Bool := xs.all (okPr b) && (upB (xs.map nmOf) && decide (sumR (xs.map frOf) = 1))
noncomputable abbrev shBody : Rho → R Fl := (fSeq (fIfS (fOr (fNot (fTest (fIsi ["tuple"] (fVar 2)))) (fOr (fTest (fBin neD (fCallB lenD (fConsB (fVar 2) fNil)) (fK (.int 2)))) (fNot (fTest (fCall 2 F_has_name (fCons (fVar 0) (fCons (fBin ixD (fVar 2) (fK (.int 0))) fNil))))))) (fRet (fK (.bl false))) fNx)
    (fIfS (fOr (fNot (fTest (fCall 1 F_is_fraction (fCons (fBin ixD (fVar 2) (fK (.int 1))) fNil)))) (fTest (fBin leD (fBin ixD (fBin ixD (fVar 2) (fK (.int 1))) (fK (.int 0))) (fK (.int 0))))) (fRet (fK (.bl false))) fNx))
theorem shBody_ok {m w n : Nat} {b : Bk} {d A : D} (h : Bok m b) (hd : Lv w n d) : (okPr b d = true ∧ shBody [.im (bkD b), .im A, .im d, .un] = .ok (.nx [.im (bkD b), .im A, .im d, .un])) ∨ (okPr b d = false ∧ shBody [.im (bkD b), .im A, .im d, .un] = .ok (.rt (.bl false))) := by
  have own := hd.own
  have ib : imD (bkD b) = .ok (bkD b) := rfl
  rcases hd.tupOr with ⟨z, nt⟩ | ⟨ds, rfl, ld, j, rfl, hm⟩
  · refine .inr ⟨?_, seq_rt0 (by simp [own, z])⟩
    cases d <;> first | rfl | exact absurd rfl (nt _)
  · match ds, hm with
    | [], _ => exact .inr ⟨by simp [okPr], seq_rt0 (by simp)⟩
    | [_], _ => exact .inr ⟨by simp [okPr], seq_rt0 (by simp)⟩
    | _ :: _ :: c :: ds, _ =>
      have e : ((ds.length : Int) + 1 + 1 + 1 == 2) = false := by
        have : (ds.length : Int) + 1 + 1 + 1 ≠ 2 := by omega
        simpa using this
      exact .inr ⟨by simp [okPr], seq_rt0 (by simp [e])⟩
    | [x, y], hm =>
      have hx := hm x (by simp)
      have hy := hm y (by simp)
      have fx := F_hasD h hx
      have fy := F_isfrD hy
      have ix := hx.im
      have iy := hy.im
      cases c1 : hasD b x with
      | false =>
        rw [c1] at fx
        refine .inr ⟨?_, seq_rt0 ?_⟩
        · unfold okPr
          split
          · rename_i heq
            cases heq
            rw [show decide (_ ∈ nms b) = hasD b (.str _) from rfl, c1]; rfl
          · rfl
        · generalize bkD b = B at *
          simp [ib, ix, fx]
      | true =>
        obtain ⟨nm, rfl⟩ : ∃ s, x = .str s := by cases x <;> first | exact ⟨_, rfl⟩ | cases c1
        rw [c1] at fx
        have s1 : fIfS (fOr (fNot (fTest (fIsi ["tuple"] (fVar 2)))) (fOr (fTest (fBin neD (fCallB lenD (fConsB (fVar 2) fNil)) (fK (.int 2)))) (fNot (fTest (fCall 2 F_has_name (fCons (fVar 0) (fCons (fBin ixD (fVar 2) (fK (.int 0))) fNil))))))) (fRet (fK (.bl false))) fNx [.im (bkD b), .im A, .im (.tup [.str nm, y]), .un] = .ok (.nx [.im (bkD b), .im A, .im (.tup [.str nm, y]), .un]) := by
          generalize bkD b = B at *
          exact if_skip (by simp [ib, fx])
        cases c2 : isFrD y with
        | false =>
          rw [c2] at fy
          refine .inr ⟨?_, seq_go s1 ?_⟩
          · cases hk : okPr b (.tup [.str nm, y]) with
            | false => rfl
            | true =>
              exfalso
              obtain ⟨n', q, e, _⟩ := okPr_inv hk
              simp only [pr, D.tup.injEq, List.cons.injEq, and_true] at e
              have e3 := F_isfr q
              rw [← e.2, fy] at e3
              injection e3 with e3
              injection e3 with e3
              cases e3
          · simp [iy, fy]
        | true =>
          obtain ⟨a, c, rfl⟩ : ∃ a c, y = .tup [.int a, .int c] := by
            unfold isFrD at c2
            split at c2
            · exact ⟨_, _, rfl⟩
            · cases c2
          rw [c2] at fy
          have ok : okPr b (.tup [.str nm, .tup [.int a, .int c]]) = decide (0 < a) := by
            have e1 : decide (nm ∈ nms b) = true := c1
            have e2 : (decide (0 < c) && a.gcd c == 1) = true := c2
            simp only [okPr, e1, e2, Bool.true_and]
          by_cases ha : 0 < a
          · refine .inl ⟨by rw [ok]; exact decide_eq_true ha, seq_go s1 (if_skip ?_)⟩
            have : ¬ a ≤ 0 := by omega
            simp [fy, this]
          · refine .inr ⟨by rw [ok]; exact decide_eq_false ha, seq_go s1 ?_⟩
            have : a ≤ 0 := by omega
            simp [fy, this]
theorem all_pairs {b : Bk} : ∀ {xs : List D}, xs.all (okPr b) = true → ∃ ps : Kv, xs = ps.map pr ∧ (∀ x ∈ ps, x.1 ∈ nms b ∧ 0 < x.2) ∧ xs.map nmOf = ps.map (·.1) ∧ xs.map frOf = ps.map (·.2)
  | [], _ => ⟨[], rfl, (fun _ h => by simp at h), rfl, rfl⟩
  | d :: ds, h => by
    rw [List.all_cons, Bool.and_eq_true] at h
    obtain ⟨n, q, e1, e2, e3, e4, e5⟩ := okPr_inv h.1
    obtain ⟨ps, f1, f2, f3, f4⟩ := all_pairs h.2
    refine ⟨(n, q) :: ps, by rw [e1, f1]; rfl, fun x hx => ?_, by rw [List.map_cons, List.map_cons, f3, e4], by rw [List.map_cons, List.map_cons, f4, e5]⟩
    rcases List.mem_cons.mp hx with rfl | hx
    · exact ⟨e2, e3⟩
    · exact f2 x hx
theorem lv_pr {w n : Nat} {x : Str × Rat} (h : Lv w n (pr x)) : Sm 64 x.2 := by
  obtain ⟨k, rfl⟩ : ∃ k, n = k + 1 := by cases h; exact ⟨_, rfl⟩
  have h2 := h.mem (d := fr x.2) (by simp [pr])
  obtain ⟨k2, rfl⟩ : ∃ k2, k = k2 + 1 := by cases h2; exact ⟨_, rfl⟩
  have a1 := h2.mem (d := .int x.2.num) (by simp [fr])
  have a2 := h2.mem (d := .int x.2.den) (by simp [fr])
  constructor
  · cases a1; assumption
  · cases a2 with
    | int _ _ h => simpa using h
theorem eqv_strs : ∀ (xs ys : List Str), PyData.eqvAll (pys (xs.map .str)) (pys (ys.map .str)) = decide (xs = ys)
  | [], [] => rfl
  | [], y :: ys => rfl
  | x :: xs, [] => rfl
  | x :: xs, y :: ys => by
    have ih := eqv_strs xs ys
    simp only [List.map_cons, pys, py, PyData.eqvAll, ih, PyData.eqv, str_eqv]
    by_cases h : x = y
    · subst h; by_cases h2 : xs = ys <;> simp [h2]
    · simp [h]
theorem eq_strs {r : Rho} {xs ys : List Str} (hx : ∀ x ∈ xs, PyData.strOk x = true) (hy : ∀ x ∈ ys, PyData.strOk x = true) : eqD r (.lst (xs.map .str)) (.lst (ys.map .str)) = .ok (.bl (decide (xs = ys))) := by
  have d1 := dep_strs hx
  have d2 := dep_strs hy
  unfold eqD
  rw [pyT_of (dep_noOwn d1), pyT_of (dep_noOwn d2), d1.shaped (by decide), d2.shaped (by decide)]
  simp only [py, PyData.eqv, eqv_strs, Bool.and_self, if_true]
theorem srt_upL : ∀ {xs : List Str}, Srt xs → xs.Nodup → Up xs
  | [], _, _ => List.Pairwise.nil
  | x :: xs, h, hn => by
    obtain ⟨h1, h2⟩ := List.pairwise_cons.mp h
    obtain ⟨n1, n2⟩ := List.nodup_cons.mp hn
    refine List.pairwise_cons.mpr ⟨fun y hy => ?_, srt_upL h2 n2⟩
    cases e : strLt x y with
    | true => rfl
    | false => exact absurd (strLt_tri e (h1 y hy) ▸ hy) n1
theorem srt_seen_iff (xs : List Str) : decide (xs = srtT (seenT [] xs)) = upB xs := by
  by_cases h : upB xs = true
  · rw [h]
    exact decide_eq_true (srt_seen ((upB_iff xs).mp h)).symm
  · rw [Bool.eq_false_iff.mpr h]
    refine decide_eq_false fun e => h ((upB_iff xs).mpr ?_)
    rw [e]
    exact srt_upL (srtT_srt _) ((srtT_perm _).nodup_iff.mpr (seenT_nodup xs [] List.nodup_nil))
theorem F_areshD {m w n : Nat} {b : Bk} {A : D} {xs : List D} (h : Bok m b) (hA : A = .lst xs ∨ A = .tup xs) (hx : ∀ x ∈ xs, Lv w n x) (hl : xs.length ≤ 8) : F_are_shares_in [bkD b, A] = .ok (.bl (shD b xs)) := by
  have own : ∀ r, ownL r A = true := fun r => by rcases hA with rfl | rfl <;> rfl
  have ty : (isTy A "list" || isTy A "tuple") = true := by rcases hA with rfl | rfl <;> rfl
  have its : ∀ ow r, itemsD ow r A = .ok xs := fun ow r => by rcases hA with rfl | rfl <;> rfl
  have first : fIfS (fNot (fTest (fIsi ["list", "tuple"] (fVar 1)))) (fRet (fK (.bl false))) fNx [.im (bkD b), .im A, .un, .un] = .ok (.nx [.im (bkD b), .im A, .un, .un]) := if_skip (by
    simp only [x_fNot, x_fTest, x_fIsi, x_fVar, List.getElem?_cons_succ, List.getElem?_cons_zero, bnd_ok, own, if_true, List.any_cons, List.any_nil, Bool.or_false, ty, x_boolOf, Bool.not_true])
  have loop := forGo_check (t := .nm 2) (fb := shBody) id (okPr b) (fun r => ∃ x2, r = [.im (bkD b), .im A, x2, .un]) (.bl false) xs (fun x m r hr => by
    obtain ⟨x2, rfl⟩ := hr
    refine ⟨[.im (bkD b), .im A, .im x, .un], by simp, ?_⟩
    rcases shBody_ok (A := A) h (hx x m) with ⟨q1, q2⟩ | ⟨q1, q2⟩
    · exact .inl ⟨q1, _, q2, _, rfl⟩
    · exact .inr ⟨q1, q2⟩) [.im (bkD b), .im A, .un, .un] ⟨_, rfl⟩
  rw [List.map_id] at loop
  refine run_rt (r0 := [.im (bkD b), .im A, .un, .un]) rfl ?_
  refine seq_go first ?_
  rcases loop with ⟨k1, r', k2, x2, rfl⟩ | ⟨k1, k2⟩
  · obtain ⟨ps, e1, e2, e3, e4⟩ := all_pairs k1
    refine seq_go (for_go (ds := xs) (by rw [x_fIt]; exact its false _) k2) ?_
    have sh : shD b xs = (upB (ps.map (·.1)) && decide (sumR (ps.map (·.2)) = 1)) := by
      unfold shD
      rw [k1, e3, e4]; rfl
    rw [sh]
    have lp : ps.length ≤ 8 := by rw [e1, List.length_map] at hl; exact hl
    have l1 : fLc [2] (.nm 2) (fIt true (fVar 1)) (fun _ => .ok true) (fBin ixD (fVar 2) (fK (.int 0))) [.im (bkD b), .im A, x2, .un] = .ok ((ps.map (·.1)).map .str) := by
      refine fLc_ok (X := ps.map pr) (by rw [x_fIt, ← e1]; exact its true _) (by simp; omega) ?_
      rw [List.map_map]
      exact lcGo_all (t := .nm 2) (fe := fBin ixD (fVar 2) (fK (.int 0))) (r := wipeR [.im (bkD b), .im A, x2, .un] [2]) pr (D.str ∘ fun p => p.1) ps fun p _ => ⟨[.im (bkD b), .im A, .im (pr p), .un], by simp, by simp [pr], rfl⟩
    have l2 : ∀ x3 : Sl, fLc [2] (.nm 2) (fIt true (fVar 1)) (fun _ => .ok true) (fBin ixD (fVar 2) (fK (.int 1))) [.im (bkD b), .im A, x2, x3] = .ok ((ps.map (·.2)).map fr) := fun x3 => by
      refine fLc_ok (X := ps.map pr) (by rw [x_fIt, ← e1]; exact its true _) (by simp; omega) ?_
      rw [List.map_map]
      exact lcGo_all (t := .nm 2) (fe := fBin ixD (fVar 2) (fK (.int 1))) (r := wipeR [.im (bkD b), .im A, x2, x3] [2]) pr (fr ∘ fun p => p.2) ps fun p _ => ⟨[.im (bkD b), .im A, .im (pr p), x3], by simp, by simp [pr], rfl⟩
    have s1 := F_summed_ok (k := 64) (qs := ps.map (·.2)) (fun q hq => by
      obtain ⟨x, m, rfl⟩ := List.mem_map.mp hq
      exact lv_pr (hx (pr x) (by rw [e1]; exact List.mem_map_of_mem m))) (by rw [List.length_map]; omega)
    have ss : fSortSet (fVar 3) [.im (bkD b), .im A, x2, .im (.lst ((ps.map (·.1)).map .str))] = .ok ((srtT (seenT [] (ps.map (·.1)))).map .str) := by
      show (match strsOf ((ps.map (·.1)).map D.str) with
        | some xs => if decide (xs.length < 64) then R.ok ((srtT (seenT [] xs)).map D.str) else .stuck
        | none => .stuck) = _
      rw [strsOf_map]
      dsimp only
      rw [if_pos (decide_eq_true (by rw [List.length_map]; omega))]
    have so : ∀ x ∈ ps.map (·.1), PyData.strOk x = true := fun x hx => by
      obtain ⟨y, hy, rfl⟩ := List.mem_map.mp hx
      exact nm_ok (h.nmOk (e2 y hy).1)
    have eq1 := eq_strs (r := [.im (bkD b), .im A, x2, .im (.lst ((ps.map (·.1)).map .str))]) (xs := ps.map (·.1)) (ys := srtT (seenT [] (ps.map (·.1)))) so (fun x hx => by
      have := (srtT_perm _).mem_iff.mp hx
      rcases (seenT_mem _ _ _).mp this with h | h
      · cases h
      · exact so x h)
    rw [srt_seen_iff] at eq1
    refine seq_go (r' := [.im (bkD b), .im A, x2, .im (.lst ((ps.map (·.1)).map .str))]) (asg_to (fL_of l1) rfl (by simp) rfl) ?_
    refine ret_of ?_ rfl
    rw [x_fAndV, x_fBin, x_fVar]
    show (((fL (fSortSet (fVar 3)) _).bnd fun y => eqD _ _ y).bnd _) = _
    rw [fL_of ss, bnd_ok, eq1, bnd_ok, x_boolOf, bnd_ok]
    cases upB (ps.map (·.1)) with
    | false => rfl
    | true =>
      rw [if_pos rfl, x_fBin, call_1 (fL_of (l2 _)) rfl s1, bnd_ok]
      show eqD _ _ d_ONE = _
      have : d_ONE = fr 1 := rfl
      rw [this, eqD_fr]
      rfl
  · have sh : shD b xs = false := by unfold shD; rw [k1]; rfl
    rw [sh]
    exact seq_rt0 (for_go (ds := xs) (by rw [x_fIt]; exact its false _) k2)
theorem F_areshK {b : Bk} {A : D} (own : ∀ r, ownL r A = true) (ty : (isTy A "list" || isTy A "tuple") = false) : F_are_shares_in [bkD b, A] = .ok (.bl false) := by
  refine run_rt (r0 := [.im (bkD b), .im A, .un, .un]) rfl ?_
  refine seq_rt0 ?_
  simp [own, ty]
end PL
end
section
namespace PL
open PySem PySem.Spec PyProof.Rows L2 PL.G TL
def ftx (q : Rat) : Str := if q.den = 1 then istr q.num else istr q.num ++ sl ++ istr q.den
def pcx (p : Str × Rat) : Str := p.1 ++ sp ++ ftx p.2
def txt (ps : Kv) : Str := Txt.join pl (ps.map pcx)
theorem p600 : (2 : Nat) ^ 1900 < 10 ^ 600 := by decide +kernel
theorem strD_ok {r : Rho} {i : Int} (h : i.natAbs < 2 ^ 1900) : strD r [.int i] = .ok (.str (istr i)) := by
  show (if strB i = true then R.ok (D.str (istr i)) else R.stuck) = _
  have e : strB i = true := okB_iff.mpr (Nat.lt_of_lt_of_le (log2_lt_bits h) (by decide))
  rw [if_pos e]
theorem istr_nat {i : Int} (h : 0 ≤ i) : ∃ n : Nat, i = (n : Int) := ⟨i.toNat, (Int.toNat_of_nonneg h).symm⟩
theorem istr_len6 {i : Int} (h0 : 0 ≤ i) (h : i.natAbs < 2 ^ 1900) : (istr i).length ≤ 600 := by
  obtain ⟨n, rfl⟩ := istr_nat h0
  exact istr_len (by decide) (Nat.lt_trans h p600)
theorem addD_str {r : Rho} {a b : Str} (h : a.length + b.length ≤ 100000) : addD r (.str a) (.str b) = .ok (.str (a ++ b)) := by
  unfold addD
  simp only
  rw [if_pos (decide_eq_true (sz_le h))]
theorem sl_len : sl.length = 1 := by decide +kernel
theorem sp_len : sp.length = 1 := by decide +kernel
theorem pl_len : pl.length = 3 := by decide +kernel
theorem F_frtext {q : Rat} (h0 : 0 ≤ q.num) (h : Sm 1900 q) : F_fraction_text [fr q] = .ok (.str (ftx q)) := by
  refine run_rt (r0 := [.im (fr q)]) rfl ?_
  have e1 := strD_ok (r := [.im (fr q)]) h.1
  have d2 : ((q.den : Nat) : Int).natAbs < 2 ^ 1900 := by simpa using h.2
  have e2 := strD_ok (r := [.im (fr q)]) d2
  have l1 := istr_len6 h0 h.1
  have l2 := istr_len6 (i := (q.den : Int)) (by omega) d2
  unfold ftx
  by_cases hd : q.den = 1
  · have hb : ((q.den : Int) == 1) = true := by rw [beq_iff_eq]; omega
    rw [if_pos hd]
    unfold B_fraction_text
    simp [hb, e1]
  · have hb : ((q.den : Int) == 1) = false := by
      have : (q.den : Int) ≠ 1 := by omega
      simpa using this
    rw [if_neg hd]
    have a1 : addD [.im (fr q)] (.str (istr q.num)) (.str (Str.ofString "/")) = .ok (.str (istr q.num ++ sl)) := addD_str (a := istr q.num) (b := sl) (by rw [sl_len]; omega)
    have a2 : addD [.im (fr q)] (.str (istr q.num ++ sl)) (.str (istr q.den)) = .ok (.str (istr q.num ++ sl ++ istr q.den)) := addD_str (by rw [len_app, sl_len]; omega)
    unfold B_fraction_text
    simp [hb, e1, e2, a1, a2]
theorem ftx_len {q : Rat} (h0 : 0 ≤ q.num) (h : Sm 1900 q) : (ftx q).length ≤ 1201 := by
  have d2 : ((q.den : Nat) : Int).natAbs < 2 ^ 1900 := by simpa using h.2
  have l1 := istr_len6 h0 h.1
  have l2 := istr_len6 (i := (q.den : Int)) (by omega) d2
  unfold ftx
  split
  · omega
  · rw [len_app, len_app, sl_len]
    omega
def Wr (p : Str × Rat) : Prop := p.1.length ≤ 640 ∧ 0 ≤ p.2.num ∧ Sm 1900 p.2
theorem sum_le_mul {l : List Nat} {k : Nat} (h : ∀ x ∈ l, x ≤ k) : l.sum ≤ l.length * k := by
  induction l with
  | nil => simp
  | cons a l ih =>
    have h1 := h a List.mem_cons_self
    have h2 := ih fun x hx => h x (List.mem_cons_of_mem _ hx)
    rw [List.sum_cons, List.length_cons, Nat.succ_mul]
    omega
theorem F_textof {ps : Kv} {A : D} (hA : SeqOf A (ps.map pr)) (h : ∀ p ∈ ps, Wr p) (hl : ps.length ≤ 1000) : F_text_of [A] = .ok (.str (txt ps)) := by
  have its : ∀ ow r, itemsD ow r A = .ok (ps.map pr) := fun ow r => by rcases hA with rfl | rfl <;> rfl
  refine run_rt (r0 := [.im A, .un, .un]) rfl ?_
  have l1 : fLc [1, 2] (.tp [(.nm 1), (.nm 2)]) (fIt true (fVar 0)) (fun _ => .ok true) (fBin addD (fBin addD (fVar 1) (fK (.str (Str.ofString " ")))) (fCall 1 F_fraction_text (fCons (fVar 2) fNil))) [.im A, .un, .un] = .ok ((ps.map pcx).map .str) := by
    refine fLc_ok (X := ps.map pr) (by rw [x_fIt]; exact its true _) (by simp; omega) ?_
    rw [List.map_map]
    refine lcGo_all (t := .tp [(.nm 1), (.nm 2)]) pr (D.str ∘ pcx) ps fun p hp => ⟨[.im A, .im (.str p.1), .im (fr p.2)], by simp [pr], ?_, rfl⟩
    obtain ⟨w1, w2, w3⟩ := h p hp
    have f := F_frtext w2 w3
    have fl := ftx_len w2 w3
    have a1 : addD [.im A, .im (.str p.1), .im (fr p.2)] (.str p.1) (.str (Str.ofString " ")) = .ok (.str (p.1 ++ sp)) := addD_str (a := p.1) (b := sp) (by rw [sp_len]; omega)
    have a2 : addD [.im A, .im (.str p.1), .im (fr p.2)] (.str (p.1 ++ sp)) (.str (ftx p.2)) = .ok (.str (pcx p)) := addD_str (by rw [len_app, sp_len]; omega)
    simp [a1, a2, f]
  refine ret_of (d := .str (txt ps)) ?_ rfl
  unfold fJoin
  rw [show fK (.str (Str.ofString " + ")) [.im A, .un, .un] = .ok (.str pl) from rfl, bnd_ok]
  simp only
  rw [fL_of l1, bnd_ok]
  simp only [viewL, strsOf_map]
  have lens : ((ps.map pcx).map (·.length)).sum ≤ 1000 * 1842 := by
    have := sum_le_mul (l := (ps.map pcx).map (·.length)) (k := 1842) (fun x hx => by
      obtain ⟨y, hy, rfl⟩ := List.mem_map.mp hx
      obtain ⟨p, hp, rfl⟩ := List.mem_map.mp hy
      obtain ⟨w1, w2, w3⟩ := h p hp
      have fl := ftx_len w2 w3
      unfold pcx
      rw [len_app, len_app, sp_len]
      omega)
    rw [List.length_map, List.length_map] at this
    have e : ps.length * 1842 ≤ 1000 * 1842 := Nat.mul_le_mul_right _ hl
    omega
  rw [if_pos (decide_eq_true (by rw [pl_len, List.length_map]; omega))]
  rfl
def figs : Str := Str.ofString "0123456789"
theorem fig_iff (c : Nat) : decide (c ∈ figs.cps.toList) = (decide (48 ≤ c) && decide (c ≤ 57)) := by
  have e : figs.cps.toList = [48, 49, 50, 51, 52, 53, 54, 55, 56, 57] := by decide +kernel
  rw [e, Bool.eq_iff_iff]
  simp only [List.mem_cons, List.not_mem_nil, or_false, decide_eq_true_eq, Bool.and_eq_true]
  omega
theorem intTD_ok {r : Rho} {x : Str} (h : isNum x = true) (hl : x.length ≤ 640) : intTD r [.str x] = .ok (.int (numV x)) := by
  unfold intTD
  simp only [int_isNum h (by omega)]
  rw [if_pos (decide_eq_true hl)]
theorem F_numin {x : Str} (ha : Ac x) (hl : x.length ≤ 640) : F_number_in [.str x] = if isNum x then .ok (.int (numV x)) else .err (Str.ofString "NoText") := by
  have q : fLc [1] (.nm 1) (fIt true (fVar 0)) (fun _ => .ok true) (fBin (inG false) (fVar 1) (fK d_FIGURES)) [.im (.str x), .un] = .ok ((x.cps.toList.map fun c => decide (c ∈ figs.cps.toList)).map D.bl) := by
    refine fLc_ok (X := signs x) (by simp [itemsD]) ?_ ?_
    · have : (signs x).length = x.length := by simp [signs, Str.length]
      omega
    · have q := lcGo_all (t := .nm 1) (fe := fBin (inG false) (fVar 1) (fK d_FIGURES)) (r := wipeR [.im (.str x), .un] [1]) (fun c : Nat => D.str ⟨#[c]⟩) (fun c => D.bl (decide (c ∈ figs.cps.toList))) x.cps.toList (fun c _ => ⟨[.im (.str x), .im (.str ⟨#[c]⟩)], by simp, by
        have e : inG false [.im (.str x), .im (.str ⟨#[c]⟩)] (.str ⟨#[c]⟩) d_FIGURES = .ok (.bl (decide (c ∈ figs.cps.toList))) := rfl
        simp [e], rfl⟩)
      rw [List.map_map]
      exact q
  have al : fCallB (allD fun bs => bs.all id) (fConsB (fL (fLc [1] (.nm 1) (fIt true (fVar 0)) (fun _ => .ok true) (fBin (inG false) (fVar 1) (fK d_FIGURES)))) fNil) [.im (.str x), .un] = .ok (.bl ((tl x).all fun c => decide (48 ≤ c) && decide (c ≤ 57))) := by
    rw [x_fCallB, x_fConsB, x_fL, q]
    simp only [bnd_ok, x_fNil]
    unfold allD viewL
    simp only [boolsOf_map]
    rw [List.all_map]
    congr 3
    funext c
    exact fig_iff c
  have e0 : eqD [.im (.str x), .un] (.str x) (.str (Str.ofString "")) = .ok (.bl (tl x).isEmpty) := by
    rw [eqD_str ha.ok (by decide +kernel)]
    congr 2
    rw [Bool.eq_iff_iff, beq_iff_eq, List.isEmpty_iff]
    constructor
    · rintro rfl; decide +kernel
    · intro h; exact ext_tl (by rw [h]; decide +kernel)
  have tst : fOr (fTest (fBin eqD (fVar 0) (fK (.str (Str.ofString ""))))) (fNot (fTest (fCallB (allD fun bs => bs.all id) (fConsB (fL (fLc [1] (.nm 1) (fIt true (fVar 0)) (fun _ => .ok true) (fBin (inG false) (fVar 1) (fK d_FIGURES)))) fNil)))) [.im (.str x), .un] = .ok (!isNum x) := by
    rw [x_fOr, x_fTest, x_fBin]
    rw [show fVar 0 [.im (.str x), .un] = .ok (.str x) from rfl, bnd_ok, show fK (.str (Str.ofString "")) [.im (.str x), .un] = .ok (.str (Str.ofString "")) from rfl, bnd_ok, e0, bnd_ok, x_boolOf, bnd_ok]
    unfold isNum
    cases (tl x).isEmpty with
    | true => rfl
    | false =>
      simp only [Bool.not_false, Bool.true_and, Bool.false_eq_true, if_false]
      rw [x_fNot, x_fTest, al]
      rfl
  cases hn : isNum x with
  | true =>
    rw [hn] at tst
    refine run_rt (r0 := [.im (.str x), .un]) rfl ?_
    refine seq_go (if_skip tst) ?_
    refine ret_of ?_ rfl
    rw [x_fCallB, x_fConsB, show fVar 0 [.im (.str x), .un] = .ok (.str x) from rfl, bnd_ok, x_fNil, bnd_ok, bnd_ok]
    exact intTD_ok hn hl
  | false =>
    rw [hn] at tst
    rw [F_number_in, x_runF]
    rw [show B_number_in ([D.str x].map .im ++ List.replicate (2 - [D.str x].length) .un) = B_number_in [.im (.str x), .un] from rfl]
    unfold B_number_in
    rw [x_fSeq, x_fIfS, tst]
    rfl
theorem lcGoX_opt {α : Type} {t : Tg} {fe : Rho → R D} {r : Rho} {c : Str} (g : α → D) (v : α → Option D) : ∀ (xs : List α), (∀ x ∈ xs, ∃ r2, setT t (g x) r = .ok r2 ∧ (match v x with
    | some y => fe r2 = .ok y ∧ noOwn y = true
    | none => fe r2 = .err c)) → lcGoX t (fun _ => .ok true) fe r (xs.map g) = (match xs.mapM v with
    | some ys => .ok ys
    | none => .err c)
  | [], _ => rfl
  | x :: xs, h => by
    have ih := lcGoX_opt (t := t) (fe := fe) (r := r) (c := c) g v xs fun y hy => h y (List.mem_cons_of_mem _ hy)
    obtain ⟨r2, h1, h2⟩ := h x List.mem_cons_self
    rw [List.map_cons, lcGoX, h1, x_noE_ok, bnd_ok, x_noE_ok, bnd_ok, if_pos rfl, List.mapM_cons]
    cases hv : v x with
    | none =>
      rw [hv] at h2
      simp only at h2
      rw [h2]
      rfl
    | some y =>
      rw [hv] at h2
      simp only at h2
      rw [h2.1, bnd_ok, show imD y = .ok y from by unfold imD; rw [h2.2]; rfl, bnd_ok, ih]
      cases xs.mapM v with
      | none => rfl
      | some ys => rfl
theorem fLcX_of {vs : List Nat} {t : Tg} {fi : Rho → R (List D)} {f : Rho → R D} {r : Rho} {X : List D} (h1 : fi r = .ok X) (h2 : X.length < 100000) : fLcX vs t fi (fun _ => .ok true) f r = lcGoX t (fun _ => .ok true) f (wipeR r vs) X := by
  unfold fLcX
  rw [h1, bnd_ok, if_pos (decide_eq_true (sz_lt' h2))]
def shr (p : Str) : Option (Str × Int × Int) := match Txt.split p sp with
  | [a, b] => (match Txt.split b sl with
    | [x] => if isNum x then some (a, numV x, 1) else none
    | [x, y] => if isNum x && isNum y then some (a, numV x, numV y) else none
    | _ => none)
  | _ => none
def shrD (t : Str × Int × Int) : D := .tup [.str t.1, .tup [.int t.2.1, .int t.2.2]]
theorem fSplit_ok {fa fb : Rho → R D} {r : Rho} {a b : Str} (h1 : fa r = .ok (.str a)) (h2 : fb r = .ok (.str b)) (hb : (b.length == 0) = false) (hl : a.length ≤ 90000) : fSplit fa fb r = .ok ((Txt.split a b).map .str) := by
  unfold fSplit
  rw [h1, bnd_ok]
  simp only
  rw [h2, bnd_ok]
  simp only
  rw [if_pos (decide_eq_true ⟨hb, sz_le (by omega)⟩)]
theorem split_le' (x y : Str) : (Txt.split x y).length ≤ x.length + 2 := split_le x y
theorem mapM_nums (l : List Str) : (l.mapM fun x => if isNum x then some (D.int (numV x)) else none) = if l.all isNum then some (l.map fun x => D.int (numV x)) else none := by
  induction l with
  | nil => rfl
  | cons x l ih =>
    rw [List.mapM_cons, ih, List.all_cons]
    cases isNum x with
    | false => rfl
    | true =>
      simp only [if_true, Bool.true_and]
      split <;> rfl
theorem F_sharein {p : Str} (ha : Ac p) (hl : p.length ≤ 640) : F_share_in [.str p] = match shr p with
    | some t => .ok (shrD t)
    | none => .err (Str.ofString "NoText") := by
  have s0 : fSplit (fVar 0) (fK (.str (Str.ofString " "))) [.im (.str p), .un, .un, .un] = .ok ((Txt.split p sp).map .str) := fSplit_ok (b := sp) rfl rfl (by decide +kernel) (by omega)
  have acc : ∀ q ∈ Txt.split p sp, Ac q ∧ q.length ≤ 640 := fun q hq => ⟨split_ac ha hq, Nat.le_trans (split_len hq) hl⟩
  have st1 : fAsg (.nm 1) (fL (fSplit (fVar 0) (fK (.str (Str.ofString " "))))) [.im (.str p), .un, .un, .un] = .ok (.nx [.im (.str p), .im (.lst ((Txt.split p sp).map .str)), .un, .un]) := asg_to (fL_of s0) rfl (by simp) rfl
  rw [F_share_in, x_runF]
  rw [show B_share_in ([D.str p].map .im ++ List.replicate (4 - [D.str p].length) .un) = B_share_in [.im (.str p), .un, .un, .un] from rfl]
  unfold B_share_in
  rw [seq_nx st1]
  unfold shr
  generalize hW : Txt.split p sp = W at *
  match W, acc, st1 with
  | [], _, _ =>
    rfl
  | [_], _, _ => rfl
  | _ :: _ :: _ :: W, _, _ =>
    have e : (((W.length : Nat) : Int) + 1 + 1 + 1 == 2) = false := by
      have : (W.length : Int) + 1 + 1 + 1 ≠ 2 := by omega
      simpa using this
    simp [e]
  | [a, b], acc, _ =>
    obtain ⟨_, _⟩ := acc a (by simp)
    obtain ⟨b1, b2⟩ := acc b (by simp)
    have accN : ∀ q ∈ Txt.split b sl, Ac q ∧ q.length ≤ 640 := fun q hq => ⟨split_ac b1 hq, Nat.le_trans (split_len hq) b2⟩
    have t1 : fIfS (fTest (fBin neD (fCallB lenD (fConsB (fVar 1) fNil)) (fK (.int 2)))) (fun _ => .err (Str.ofString "NoText")) fNx [.im (.str p), .im (.lst ([a, b].map .str)), .un, .un] = .ok (.nx [.im (.str p), .im (.lst ([a, b].map .str)), .un, .un]) := if_skip (by simp)
    rw [seq_nx t1]
    have s2 : fSplit (fBin ixD (fVar 1) (fK (.int 1))) (fK (.str (Str.ofString "/"))) [.im (.str p), .im (.lst ([a, b].map .str)), .un, .un] = .ok ((Txt.split b sl).map .str) := fSplit_ok (b := sl) (by simp) rfl (by decide +kernel) (by omega)
    have ln : ((Txt.split b sl).map D.str).length < 100000 := by
      have := split_le' b sl
      rw [List.length_map]
      omega
    have lc : fLcX [3] (.nm 3) (fIt true (fL (fSplit (fBin ixD (fVar 1) (fK (.int 1))) (fK (.str (Str.ofString "/")))))) (fun _ => .ok true) (fCall 1 F_number_in (fCons (fVar 3) fNil)) [.im (.str p), .im (.lst ([a, b].map .str)), .un, .un] =
        if (Txt.split b sl).all isNum then .ok ((Txt.split b sl).map fun x => D.int (numV x)) else .err (Str.ofString "NoText") := by
      rw [fLcX_of (X := (Txt.split b sl).map .str) (by rw [x_fIt, fL_of s2]; rfl) ln]
      rw [lcGoX_opt (c := Str.ofString "NoText") D.str (fun x => if isNum x then some (D.int (numV x)) else none) (Txt.split b sl) (fun x hx => by
        refine ⟨[.im (.str p), .im (.lst ([a, b].map .str)), .un, .im (.str x)], by simp, ?_⟩
        have f := F_numin (accN x hx).1 (accN x hx).2
        cases hn : isNum x with
        | true =>
          rw [hn] at f
          exact ⟨call_1 (a := .str x) rfl rfl f, rfl⟩
        | false =>
          rw [hn] at f
          simp [f]), mapM_nums]
      cases (Txt.split b sl).all isNum <;> rfl
    have ne : Txt.split b sl ≠ [] := fun e => by
      have := split_pos b sl
      rw [e] at this
      cases this
    obtain ⟨V, hV⟩ : ∃ V, Txt.split b sl = V := ⟨_, rfl⟩
    rw [hV] at ne
    simp only
    rw [hV] at lc ⊢
    cases hN : V.all isNum with
    | false =>
      rw [hN] at lc
      have : fAsg (.nm 2) (fL (fLcX [3] (.nm 3) (fIt true (fL (fSplit (fBin ixD (fVar 1) (fK (.int 1))) (fK (.str (Str.ofString "/")))))) (fun _ => .ok true) (fCall 1 F_number_in (fCons (fVar 3) fNil)))) [.im (.str p), .im (.lst ([a, b].map .str)), .un, .un] = .err (Str.ofString "NoText") := by
        rw [x_fAsg, x_fL, lc]; rfl
      rw [x_fSeq, this]
      match V, hN with
      | [x], hN => simp only [List.all_cons, List.all_nil, Bool.and_true] at hN; simp [hN]
      | [x, y], hN => simp only [List.all_cons, List.all_nil, Bool.and_true] at hN; simp [hN, ← Bool.and_eq_true]
      | [], hN => rfl
      | _ :: _ :: _ :: _, _ => rfl
    | true =>
      rw [hN, if_pos rfl] at lc
      have st2 : fAsg (.nm 2) (fL (fLcX [3] (.nm 3) (fIt true (fL (fSplit (fBin ixD (fVar 1) (fK (.int 1))) (fK (.str (Str.ofString "/")))))) (fun _ => .ok true) (fCall 1 F_number_in (fCons (fVar 3) fNil)))) [.im (.str p), .im (.lst ([a, b].map .str)), .un, .un] = .ok (.nx [.im (.str p), .im (.lst ([a, b].map .str)), .im (.lst (V.map fun x => D.int (numV x))), .un]) := asg_to (fL_of lc) rfl (by simp) rfl
      rw [seq_nx st2]
      match V, hN, ne with
      | [], _, ne => exact absurd rfl ne
      | [x], hN, _ =>
        simp only [List.all_cons, List.all_nil, Bool.and_true] at hN
        simp [hN, shrD]
      | [x, y], hN, _ =>
        simp only [List.all_cons, List.all_nil, Bool.and_true, Bool.and_eq_true] at hN
        simp [hN.1, hN.2, shrD]
      | _ :: _ :: _ :: V, _, _ =>
        have e' : (2 : Int) < ((V.length : Nat) : Int) + 1 + 1 + 1 := by omega
        simp [e']
end PL
end
section
namespace PL
open PySem PySem.Spec PyProof.Rows L2 PL.G TL
theorem F_isnameL {x : Str} (hl : x.length ≤ 1000) : F_is_name [.str x] = .ok (.bl (isNmS x)) := by
  have q : fLc [1] (.nm 1) (fIt true (fVar 0)) (fun _ => .ok true) (fBin (inG false) (fVar 1) (fK d_SMALL)) [.im (.str x), .un] = .ok ((x.cps.toList.map fun c => decide (c ∈ (Str.ofString "abcdefghijklmnopqrstuvwxyz").cps.toList)).map D.bl) := by
    refine fLc_ok (X := signs x) (by simp [itemsD]) ?_ ?_
    · have : (signs x).length = x.length := by simp [signs, Str.length]
      omega
    · have q := lcGo_all (t := .nm 1) (fe := fBin (inG false) (fVar 1) (fK d_SMALL)) (r := wipeR [.im (.str x), .un] [1]) (fun c : Nat => D.str ⟨#[c]⟩) (fun c => D.bl (decide (c ∈ (Str.ofString "abcdefghijklmnopqrstuvwxyz").cps.toList))) x.cps.toList (fun c _ => ⟨[.im (.str x), .im (.str ⟨#[c]⟩)], by simp, by
        have e : inG false [.im (.str x), .im (.str ⟨#[c]⟩)] (.str ⟨#[c]⟩) d_SMALL = .ok (.bl (decide (c ∈ (Str.ofString "abcdefghijklmnopqrstuvwxyz").cps.toList))) := rfl
        simp [e], rfl⟩)
      rw [List.map_map]
      exact q
  have al : fCallB (allD fun bs => bs.all id) (fConsB (fL (fLc [1] (.nm 1) (fIt true (fVar 0)) (fun _ => .ok true) (fBin (inG false) (fVar 1) (fK d_SMALL)))) fNil) [.im (.str x), .un] = .ok (.bl (x.cps.toList.all fun c => decide (c ∈ (Str.ofString "abcdefghijklmnopqrstuvwxyz").cps.toList))) := by
    rw [x_fCallB, x_fConsB, x_fL, q]
    simp only [bnd_ok, x_fNil]
    unfold allD viewL
    simp only [boolsOf_map]
    rw [List.all_map]
    rfl
  have ln : ∀ r, lenD r [.str x] = .ok (.int x.length) := fun r => by
    unfold lenD
    simp [show x.length ≤ sizeLine from sz_le (by omega)]
  have lg : d_LONGEST = .int 6 := rfl
  refine run_rt (r0 := [.im (.str x), .un]) rfl ?_
  unfold isNmS
  unfold B_is_name
  rw [x_fRet, x_fAndV, show fIsi ["str"] (fVar 0) [.im (.str x), .un] = .ok (.bl true) from rfl, bnd_ok, x_boolOf, bnd_ok, if_pos rfl, x_fAndV]
  have ch : fChain leD leD (fK (.int 1)) (fCallB lenD (fConsB (fVar 0) fNil)) (fK d_LONGEST) [.im (.str x), .un] = .ok (.bl (decide (1 ≤ x.length) && decide (x.length ≤ 6))) := by
    by_cases h1 : 1 ≤ x.length
    · have h1' : (1 : Int) ≤ x.length := by omega
      by_cases h6 : x.length ≤ 6
      · have h6' : (x.length : Int) ≤ 6 := by omega
        simp [ln, lg, h1, h6, h1', h6']
      · have h6' : ¬ (x.length : Int) ≤ 6 := by omega
        simp [ln, lg, h1, h6, h1', h6']
    · have h1' : ¬ (1 : Int) ≤ x.length := by omega
      simp [ln, lg, h1, h1']
  rw [ch, bnd_ok, x_boolOf, bnd_ok]
  cases (decide (1 ≤ x.length) && decide (x.length ≤ 6)) with
  | false => rfl
  | true => rw [if_pos rfl, al]; rfl
theorem F_hasL {m : Nat} {b : Bk} {x : Str} (h : Bok m b) (hl : x.length ≤ 1000) : F_has_name [bkD b, .str x] = .ok (.bl (decide (x ∈ nms b))) := by
  have e := F_isnameL hl
  have h6 := h.l6
  cases hn : isNmS x with
  | false =>
    have z : decide (x ∈ nms b) = false := by
      refine decide_eq_false fun hx => ?_
      have nx := h.nmOk hx
      have e1 := nm_name nx
      have e2 := F_isnameS (nm_len nx)
      rw [e1] at e2
      injection e2 with e2
      injection e2 with e2
      rw [hn] at e2
      cases e2
    rw [z]
    rw [hn] at e
    simp only [F_has_name, x_runF, B_has_name]
    simp [e]
  | true =>
    rw [hn] at e
    have l := lc_firsts (i := 2) (r := [.im (bkD b), .im (.str x), .un]) (fi := fIt true (fVar 0)) (b := b) rfl (by omega) (by simp)
    refine run_rt (r0 := [.im (bkD b), .im (.str x), .un]) rfl ?_
    refine ret_of ?_ rfl
    rw [x_fAndV, call_1 (a := .str x) rfl rfl e]
    simp only [bnd_ok, x_boolOf, if_true]
    rw [x_fBin, fL_of l, x_fVar]
    exact in_strs [.im (bkD b), .im (.str x), .un] false x (nms b)
theorem F_isfrI (a c : Int) : F_is_fraction [.tup [.int a, .int c]] = .ok (.bl (decide (0 < c) && a.gcd c == 1)) := by
  simp [F_is_fraction, x_runF, B_is_fraction, lcGo, boolsOf]
  by_cases hp : 0 < c
  · simp [hp, gcd_one]
  · simp [hp]
theorem shBody_okT {m : Nat} {b : Bk} {t : Str × Int × Int} {A : D} (h : Bok m b) (hl : t.1.length ≤ 1000) : (okPr b (shrD t) = true ∧ shBody [.im (bkD b), .im A, .im (shrD t), .un] = .ok (.nx [.im (bkD b), .im A, .im (shrD t), .un])) ∨ (okPr b (shrD t) = false ∧ shBody [.im (bkD b), .im A, .im (shrD t), .un] = .ok (.rt (.bl false))) := by
  obtain ⟨n, a, c⟩ := t
  have ib : imD (bkD b) = .ok (bkD b) := rfl
  have fx := F_hasL h hl
  have fy := F_isfrI a c
  have ok : okPr b (shrD (n, a, c)) = (decide (n ∈ nms b) && ((decide (0 < c) && a.gcd c == 1) && decide (0 < a))) := rfl
  rw [ok]
  unfold shrD
  generalize bkD b = B at *
  simp only at fx ⊢
  cases c1 : decide (n ∈ nms b) with
  | false =>
    rw [c1] at fx
    exact .inr ⟨rfl, seq_rt0 (by simp [ib, fx])⟩
  | true =>
    rw [c1] at fx
    have s1 : fIfS (fOr (fNot (fTest (fIsi ["tuple"] (fVar 2)))) (fOr (fTest (fBin neD (fCallB lenD (fConsB (fVar 2) fNil)) (fK (.int 2)))) (fNot (fTest (fCall 2 F_has_name (fCons (fVar 0) (fCons (fBin ixD (fVar 2) (fK (.int 0))) fNil))))))) (fRet (fK (.bl false))) fNx [.im B, .im A, .im (.tup [.str n, .tup [.int a, .int c]]), .un] = .ok (.nx [.im B, .im A, .im (.tup [.str n, .tup [.int a, .int c]]), .un]) := if_skip (by simp [ib, fx])
    cases c2 : (decide (0 < c) && a.gcd c == 1) with
    | false =>
      rw [c2] at fy
      exact .inr ⟨rfl, seq_go s1 (by simp [fy])⟩
    | true =>
      rw [c2] at fy
      by_cases ha : 0 < a
      · have : ¬ a ≤ 0 := by omega
        exact .inl ⟨by simp [ha], seq_go s1 (if_skip (by simp [fy, this]))⟩
      · have : a ≤ 0 := by omega
        exact .inr ⟨by simp [ha], seq_go s1 (by simp [fy, this])⟩
theorem up_len6 {m : Nat} {b : Bk} (h : Bok m b) {xs : List Str} (hu : upB xs = true) (hm : ∀ x ∈ xs, x ∈ nms b) : xs.length ≤ 6 := by
  have nd : xs.Nodup := ((upB_iff xs).mp hu).imp fun {a c} hac e => by
    rw [e, strLt_irrefl] at hac
    cases hac
  have := h.nlen
  exact Nat.le_trans (List.Nodup.length_le_of_subset nd hm) this
theorem F_areshT {m k : Nat} {b : Bk} {A : D} {ts : List (Str × Int × Int)} (h : Bok m b) (hA : SeqOf A (ts.map shrD)) (ht : ∀ t ∈ ts, t.1.length ≤ 1000 ∧ t.2.1.natAbs < 2 ^ k ∧ t.2.2.natAbs < 2 ^ k) (hk : k ≤ 1330) (hl : ts.length ≤ 63) : F_are_shares_in [bkD b, A] = .ok (.bl (shD b (ts.map shrD))) := by
  have own : ∀ r, ownL r A = true := fun r => by rcases hA with rfl | rfl <;> rfl
  have ty : (isTy A "list" || isTy A "tuple") = true := by rcases hA with rfl | rfl <;> rfl
  have its : ∀ ow r, itemsD ow r A = .ok (ts.map shrD) := fun ow r => by rcases hA with rfl | rfl <;> rfl
  have first : fIfS (fNot (fTest (fIsi ["list", "tuple"] (fVar 1)))) (fRet (fK (.bl false))) fNx [.im (bkD b), .im A, .un, .un] = .ok (.nx [.im (bkD b), .im A, .un, .un]) := if_skip (by
    simp only [x_fNot, x_fTest, x_fIsi, x_fVar, List.getElem?_cons_succ, List.getElem?_cons_zero, bnd_ok, own, if_true, List.any_cons, List.any_nil, Bool.or_false, ty, x_boolOf, Bool.not_true])
  have loop := forGo_check (t := .nm 2) (fb := shBody) shrD (fun t => okPr b (shrD t)) (fun r => ∃ x2, r = [.im (bkD b), .im A, x2, .un]) (.bl false) ts (fun x m r hr => by
    obtain ⟨x2, rfl⟩ := hr
    refine ⟨[.im (bkD b), .im A, .im (shrD x), .un], by simp, ?_⟩
    rcases shBody_okT (A := A) h (ht x m).1 with ⟨q1, q2⟩ | ⟨q1, q2⟩
    · exact .inl ⟨q1, _, q2, _, rfl⟩
    · exact .inr ⟨q1, q2⟩) [.im (bkD b), .im A, .un, .un] ⟨_, rfl⟩
  have al : ts.all (fun t => okPr b (shrD t)) = (ts.map shrD).all (okPr b) := by rw [List.all_map]; rfl
  rw [al] at loop
  refine run_rt (r0 := [.im (bkD b), .im A, .un, .un]) rfl ?_
  refine seq_go first ?_
  rcases loop with ⟨k1, r', k2, x2, rfl⟩ | ⟨k1, k2⟩
  · obtain ⟨ps, e1, e2, e3, e4⟩ := all_pairs k1
    refine seq_go (for_go (ds := ts.map shrD) (by rw [x_fIt]; exact its false _) k2) ?_
    have sh : shD b (ts.map shrD) = (upB (ps.map (·.1)) && decide (sumR (ps.map (·.2)) = 1)) := by
      unfold shD
      rw [k1, e3, e4]; rfl
    rw [sh]
    have lp : ps.length ≤ 63 := by
      have := congrArg List.length e1
      rw [List.length_map, List.length_map] at this
      omega
    have smp : ∀ p ∈ ps, Sm k p.2 := fun p hp => by
      have hm : pr p ∈ ts.map shrD := by rw [e1]; exact List.mem_map_of_mem hp
      obtain ⟨t, htm, e⟩ := List.mem_map.mp hm
      obtain ⟨_, t2, t3⟩ := ht t htm
      simp only [shrD, pr, fr, D.tup.injEq, List.cons.injEq, and_true, D.str.injEq, D.int.injEq] at e
      exact ⟨by rw [← e.2.1]; exact t2, by have := e.2.2; rw [this] at t3; simpa using t3⟩
    have l1 : fLc [2] (.nm 2) (fIt true (fVar 1)) (fun _ => .ok true) (fBin ixD (fVar 2) (fK (.int 0))) [.im (bkD b), .im A, x2, .un] = .ok ((ps.map (·.1)).map .str) := by
      refine fLc_ok (X := ps.map pr) (by rw [x_fIt, ← e1]; exact its true _) (by simp; omega) ?_
      rw [List.map_map]
      exact lcGo_all (t := .nm 2) (fe := fBin ixD (fVar 2) (fK (.int 0))) (r := wipeR [.im (bkD b), .im A, x2, .un] [2]) pr (D.str ∘ fun p => p.1) ps fun p _ => ⟨[.im (bkD b), .im A, .im (pr p), .un], by simp, by simp [pr], rfl⟩
    have l2 : ∀ x3 : Sl, fLc [2] (.nm 2) (fIt true (fVar 1)) (fun _ => .ok true) (fBin ixD (fVar 2) (fK (.int 1))) [.im (bkD b), .im A, x2, x3] = .ok ((ps.map (·.2)).map fr) := fun x3 => by
      refine fLc_ok (X := ps.map pr) (by rw [x_fIt, ← e1]; exact its true _) (by simp; omega) ?_
      rw [List.map_map]
      exact lcGo_all (t := .nm 2) (fe := fBin ixD (fVar 2) (fK (.int 1))) (r := wipeR [.im (bkD b), .im A, x2, x3] [2]) pr (fr ∘ fun p => p.2) ps fun p _ => ⟨[.im (bkD b), .im A, .im (pr p), x3], by simp, by simp [pr], rfl⟩
    have ss : fSortSet (fVar 3) [.im (bkD b), .im A, x2, .im (.lst ((ps.map (·.1)).map .str))] = .ok ((srtT (seenT [] (ps.map (·.1)))).map .str) := by
      show (match strsOf ((ps.map (·.1)).map D.str) with
        | some xs => if decide (xs.length < 64) then R.ok ((srtT (seenT [] xs)).map D.str) else .stuck
        | none => .stuck) = _
      rw [strsOf_map]
      dsimp only
      rw [if_pos (decide_eq_true (by rw [List.length_map]; omega))]
    have so : ∀ x ∈ ps.map (·.1), PyData.strOk x = true := fun x hx => by
      obtain ⟨y, hy, rfl⟩ := List.mem_map.mp hx
      exact nm_ok (h.nmOk (e2 y hy).1)
    have eq1 := eq_strs (r := [.im (bkD b), .im A, x2, .im (.lst ((ps.map (·.1)).map .str))]) (xs := ps.map (·.1)) (ys := srtT (seenT [] (ps.map (·.1)))) so (fun x hx => by
      have := (srtT_perm _).mem_iff.mp hx
      rcases (seenT_mem _ _ _).mp this with h | h
      · cases h
      · exact so x h)
    rw [srt_seen_iff] at eq1
    refine seq_go (r' := [.im (bkD b), .im A, x2, .im (.lst ((ps.map (·.1)).map .str))]) (asg_to (fL_of l1) rfl (by simp) rfl) ?_
    refine ret_of ?_ rfl
    rw [x_fAndV, x_fBin, x_fVar]
    show (((fL (fSortSet (fVar 3)) _).bnd fun y => eqD _ _ y).bnd _) = _
    rw [fL_of ss, bnd_ok, eq1, bnd_ok, x_boolOf, bnd_ok]
    cases hu : upB (ps.map (·.1)) with
    | false => rfl
    | true =>
      have l6 := up_len6 h hu (fun x hx => by
        obtain ⟨y, hy, rfl⟩ := List.mem_map.mp hx
        exact (e2 y hy).1)
      rw [List.length_map] at l6
      have s1 := F_summed_ok (k := k) (qs := ps.map (·.2)) (fun q hq => by
        obtain ⟨x, m, rfl⟩ := List.mem_map.mp hq
        exact smp x m) (by
          rw [List.length_map]
          have : (k + 1) * ps.length ≤ 1331 * 6 := Nat.mul_le_mul (by omega) l6
          omega)
      rw [if_pos rfl, x_fBin, call_1 (fL_of (l2 _)) rfl s1, bnd_ok]
      show eqD _ _ d_ONE = _
      have : d_ONE = fr 1 := rfl
      rw [this, eqD_fr]
      rfl
  · have sh : shD b (ts.map shrD) = false := by unfold shD; rw [k1]; rfl
    rw [sh]
    exact seq_rt0 (for_go (ds := ts.map shrD) (by rw [x_fIt]; exact its false _) k2)
end PL
end
section
namespace PL
open PySem PySem.Spec PyProof.Rows L2 PL.G TL
abbrev Tq := Str × Int × Int
def qT (t : Tq) : Rat := Rat.divInt t.2.1 t.2.2
def kvT (ts : List Tq) : Kv := ts.map fun t => (t.1, qT t)
theorem shrD_pr {b : Bk} {t : Tq} (h : okPr b (shrD t) = true) : shrD t = pr (t.1, qT t) ∧ t.1 ∈ nms b ∧ 0 < qT t ∧ t.2.1 = (qT t).num ∧ t.2.2 = ((qT t).den : Int) := by
  obtain ⟨n, q, e, hn, hq, _, _⟩ := okPr_inv h
  obtain ⟨a, c, d⟩ := t
  simp only [shrD, pr, fr, D.tup.injEq, List.cons.injEq, and_true, D.str.injEq, D.int.injEq] at e
  obtain ⟨rfl, rfl, rfl⟩ := e
  have z : qT (a, q.num, (q.den : Int)) = q := Rat.num_divInt_den q
  rw [z]
  exact ⟨rfl, hn, hq, rfl, rfl⟩
theorem mapM_iff {α β : Type} {f : α → Option β} : ∀ {xs : List α} {ys : List β}, xs.mapM f = some ys ↔ xs.map f = ys.map some
  | [], ys => by
    cases ys with
    | nil => simp
    | cons y ys => simp
  | x :: xs, ys => by
    have ih := fun ys => mapM_iff (f := f) (xs := xs) (ys := ys)
    rw [List.mapM_cons, List.map_cons]
    cases hx : f x with
    | none =>
      cases ys with
      | nil => simp
      | cons y ys => simp
    | some y =>
      cases hm : xs.mapM f with
      | none =>
        cases ys with
        | nil => simp
        | cons z ys =>
          simp only [List.map_cons, List.cons.injEq, Option.some.injEq]
          constructor
          · intro h; cases h
          · rintro ⟨rfl, h⟩
            rw [(ih ys).mpr h] at hm
            cases hm
      | some zs =>
        have e := (ih zs).mp hm
        cases ys with
        | nil =>
          constructor
          · intro h; cases h
          · intro h; cases h
        | cons z ys =>
          simp only [List.map_cons, List.cons.injEq, Option.some.injEq]
          constructor
          · intro h
            have h2 : some (y :: zs) = some (z :: ys) := h
            cases h2
            exact ⟨rfl, e⟩
          · rintro ⟨rfl, h⟩
            rw [e] at h
            have : zs = ys := by
              have inj : ∀ {l m : List β}, l.map some = m.map some → l = m := by
                intro l
                induction l with
                | nil => intro m h; cases m with
                  | nil => rfl
                  | cons _ _ => cases h
                | cons a l ih => intro m h; cases m with
                  | nil => cases h
                  | cons b m => simp only [List.map_cons, List.cons.injEq, Option.some.injEq] at h; rw [h.1, ih h.2]
              exact inj h
            rw [this]
            rfl
theorem mapM_mem {α β : Type} {f : α → Option β} {xs : List α} {ys : List β} (h : xs.mapM f = some ys) {y : β} (hy : y ∈ ys) : ∃ x ∈ xs, f x = some y := by
  have e := mapM_iff.mp h
  have m : some y ∈ ys.map some := List.mem_map_of_mem hy
  rw [← e] at m
  obtain ⟨x, hx, q⟩ := List.mem_map.mp m
  exact ⟨x, hx, q⟩
theorem mapM_mem2 {α β : Type} {f : α → Option β} {xs : List α} {ys : List β} (h : xs.mapM f = some ys) {x : α} (hx : x ∈ xs) : ∃ y ∈ ys, f x = some y := by
  have e := mapM_iff.mp h
  have m : f x ∈ xs.map f := List.mem_map_of_mem hx
  rw [e] at m
  obtain ⟨y, hy, q⟩ := List.mem_map.mp m
  exact ⟨y, hy, q.symm⟩
theorem mapM_len {α β : Type} {f : α → Option β} {xs : List α} {ys : List β} (h : xs.mapM f = some ys) : ys.length = xs.length := by
  have e := congrArg List.length (mapM_iff.mp h)
  rw [List.length_map, List.length_map] at e
  exact e.symm
theorem split_eq2 {p a c y : Str} (h : Txt.split p y = [a, c]) : p = a ++ y ++ c := by
  have e := StrLaws.join_split p y
  rw [h] at e
  exact e.symm
theorem split_eq1 {p a y : Str} (h : Txt.split p y = [a]) : p = a := by
  have e := StrLaws.join_split p y
  rw [h] at e
  exact e.symm
theorem isNum_len {x : Str} (h : isNum x = true) : 1 ≤ x.length := by
  rw [len_tl]
  cases e : tl x with
  | nil => exact absurd e (isNum_iff.mp h).1
  | cons _ _ => simp
theorem shr_inv {p : Str} {t : Tq} (h : shr p = some t) : ∃ w, Txt.split p sp = [t.1, w] ∧ ((Txt.split w sl = [w] ∧ isNum w = true ∧ t.2.1 = numV w ∧ t.2.2 = 1) ∨ ∃ x y, Txt.split w sl = [x, y] ∧ isNum x = true ∧ isNum y = true ∧ t.2.1 = numV x ∧ t.2.2 = numV y) := by
  unfold shr at h
  split at h
  · rename_i a w e1
    split at h
    · rename_i x e2
      have ex := split_eq1 e2
      subst ex
      split at h
      · rename_i hx
        cases h
        exact ⟨_, e1, .inl ⟨e2, hx, rfl, rfl⟩⟩
      · cases h
    · rename_i x y e2
      split at h
      · rename_i hx
        cases h
        rw [Bool.and_eq_true] at hx
        exact ⟨w, e1, .inr ⟨x, y, e2, hx.1, hx.2, rfl, rfl⟩⟩
      · cases h
    · cases h
  · cases h
theorem shr_len {p : Str} {t : Tq} (h : shr p = some t) : 2 ≤ p.length ∧ t.1.length ≤ p.length ∧ t.2.1.natAbs < 10 ^ p.length ∧ t.2.2.natAbs < 10 ^ p.length := by
  obtain ⟨w, e1, q⟩ := shr_inv h
  have e := split_eq2 e1
  have l : p.length = t.1.length + 1 + w.length := by rw [e, len_app, len_app, sp_len]
  have mono : ∀ {x : Str}, isNum x = true → x.length ≤ p.length → ((numV x : Nat) : Int).natAbs < 10 ^ p.length := fun {x} hx hl => by
    have := numV_lt hx
    have m : 10 ^ x.length ≤ 10 ^ p.length := Nat.pow_le_pow_right (by decide) hl
    simp only [Int.natAbs_natCast]
    omega
  rcases q with ⟨e2, hx, v1, v2⟩ | ⟨x, y, e2, hx, hy, v1, v2⟩
  · have := isNum_len hx
    refine ⟨by omega, by omega, by rw [v1]; exact mono hx (by omega), ?_⟩
    rw [v2]
    have : 10 ^ 1 ≤ 10 ^ p.length := Nat.pow_le_pow_right (by decide) (by omega)
    show 1 < _
    omega
  · have e3 := split_eq2 e2
    have l3 : w.length = x.length + 1 + y.length := by rw [e3, len_app, len_app, sl_len]
    have := isNum_len hx
    exact ⟨by omega, by omega, by rw [v1]; exact mono hx (by omega), by rw [v2]; exact mono hy (by omega)⟩
theorem join_len {y : Str} : ∀ {ps : List Str}, ps ≠ [] → (∀ p ∈ ps, 2 ≤ p.length) → (2 + y.length) * ps.length ≤ (Str.join y ps).length + y.length
  | [], h, _ => absurd rfl h
  | [p], _, h => by
    have := h p (by simp)
    show (2 + y.length) * 1 ≤ p.length + y.length
    omega
  | p :: q :: r, _, h => by
    have h1 := h p (by simp)
    have ih := join_len (y := y) (ps := q :: r) (by simp) fun z hz => h z (List.mem_cons_of_mem _ hz)
    show (2 + y.length) * ((q :: r).length + 1) ≤ (p ++ y ++ Str.join y (q :: r)).length + y.length
    rw [len_app, len_app, Nat.mul_succ]
    omega
theorem p400 : (10 : Nat) ^ 400 < 2 ^ 1330 := by decide +kernel
theorem bits_of {a k : Nat} (h : a < 10 ^ k) (hk : k ≤ 400) : a < 2 ^ 1330 := by
  have m : 10 ^ k ≤ 10 ^ 400 := Nat.pow_le_pow_right (by decide) hk
  exact Nat.lt_trans (Nat.lt_of_lt_of_le h m) p400
theorem read_few {s : Str} {ts : List Tq} (hl : s.length ≤ 300) (h : (Txt.split s pl).mapM shr = some ts) : ts.length ≤ 63 := by
  rw [mapM_len h]
  have ne : Txt.split s pl ≠ [] := fun e => by
    have := split_pos s pl
    rw [e] at this
    cases this
  have j := join_len (y := pl) ne fun p hp => by
    obtain ⟨t, _, e⟩ := mapM_mem2 h hp
    exact (shr_len e).1
  rw [StrLaws.join_split, pl_len] at j
  omega
theorem read_facts {s : Str} {ts : List Tq} (hl : s.length ≤ 400) (h : (Txt.split s pl).mapM shr = some ts) : ∀ t ∈ ts, t.1.length ≤ 400 ∧ t.2.1.natAbs < 2 ^ 1330 ∧ t.2.2.natAbs < 2 ^ 1330 := by
  intro t ht
  obtain ⟨p, hp, e⟩ := mapM_mem h ht
  obtain ⟨_, e1, e2, e3⟩ := shr_len e
  have := split_len hp
  exact ⟨by omega, bits_of e2 (by omega), bits_of e3 (by omega)⟩
theorem okPr_all {b : Bk} {ts : List Tq} (h : (ts.map shrD).all (okPr b) = true) : ∀ t ∈ ts, okPr b (shrD t) = true := fun t ht => List.all_eq_true.mp h _ (List.mem_map_of_mem ht)
theorem kv_pr {b : Bk} {ts : List Tq} (h : ∀ t ∈ ts, okPr b (shrD t) = true) : ts.map shrD = (kvT ts).map pr := by
  unfold kvT
  rw [List.map_map]
  exact List.map_congr_left fun t ht => (shrD_pr (h t ht)).1
theorem txt_ac {ps : Kv} (h : ∀ p ∈ ps, Ac p.1 ∧ 0 ≤ p.2.num) : Ac (txt ps) := by
  have ai : ∀ i : Int, 0 ≤ i → Ac (istr i) := fun i hi => by
    obtain ⟨n, rfl⟩ := istr_nat hi
    exact isNum_ac (isNum_istr n)
  have ap : ∀ p ∈ ps, Ac (pcx p) := fun p hp => by
    obtain ⟨h1, h2⟩ := h p hp
    refine (h1.app (ac_dec (by decide +kernel))).app ?_
    unfold ftx
    split
    · exact ai _ h2
    · exact ((ai _ h2).app (ac_dec (by decide +kernel))).app (ai _ (by omega))
  unfold txt
  rw [join_eq]
  have key : ∀ l : List Str, (∀ x ∈ l, Ac x) → Ac (Str.join pl l) := by
    intro l
    induction l with
    | nil => intro _ c hc; cases hc
    | cons x l ih =>
      intro hx
      cases l with
      | nil => exact hx x (by simp)
      | cons y l => exact ((hx x (by simp)).app (ac_dec (by decide +kernel))).app (ih fun z hz => hx z (List.mem_cons_of_mem _ hz))
  refine key _ fun x hx => ?_
  obtain ⟨p, hp, rfl⟩ := List.mem_map.mp hx
  exact ap p hp
theorem nmS_ac {x : Str} (h : isNmS x = true) : Ac x ∧ (∀ c ∈ tl x, 97 ≤ c ∧ c ≤ 122) ∧ x.length ≤ 6 := by
  unfold isNmS at h
  simp only [Bool.and_eq_true, List.all_eq_true, decide_eq_true_eq] at h
  have e : (Str.ofString "abcdefghijklmnopqrstuvwxyz").cps.toList = [97, 98, 99, 100, 101, 102, 103, 104, 105, 106, 107, 108, 109, 110, 111, 112, 113, 114, 115, 116, 117, 118, 119, 120, 121, 122] := by decide +kernel
  have r : ∀ c ∈ tl x, 97 ≤ c ∧ c ≤ 122 := fun c hc => by
    have := h.2 c hc
    rw [e] at this
    simp only [List.mem_cons, List.not_mem_nil, or_false] at this
    omega
  exact ⟨fun c hc => by have := r c hc; omega, r, h.1.2⟩
theorem nm_nmS {x : Str} (h : Nm x) : isNmS x = true := by
  have e1 := nm_name h
  have e2 := F_isnameS (nm_len h)
  rw [e1] at e2
  injection e2 with e2
  injection e2 with e2
  exact e2.symm
theorem nm_ac {x : Str} (h : Nm x) : Ac x := (nmS_ac (nm_nmS h)).1
theorem nm_free {x : Str} (h : Nm x) {c : Nat} (hc : c < 97 ∨ 122 < c) : c ∉ tl x := fun m => by
  have := (nmS_ac (nm_nmS h)).2.1 c m
  omega
theorem F_readsh {m : Nat} {b : Bk} {s : Str} (h : Bok m b) (ha : Ac s) (hl : s.length ≤ 400) (few : ∀ ts, (Txt.split s pl).mapM shr = some ts → ts.length ≤ 63) : F_read_shares [bkD b, .str s] = match (Txt.split s pl).mapM shr with
    | none => .err (Str.ofString "NoText")
    | some ts => if shD b (ts.map shrD) && (txt (kvT ts) == s) then .ok (.lst (ts.map shrD)) else .err (Str.ofString "NoText") := by
  have lb : fExpr (fCall 1 F_look_book (fCons (fVar 0) fNil)) [.im (bkD b), .im (.str s), .un, .un] = .ok (.nx [.im (bkD b), .im (.str s), .un, .un]) := by
    rw [x_fExpr, call_1 (a := bkD b) rfl rfl (F_lookbook h)]; rfl
  rw [F_read_shares, x_runF]
  rw [show B_read_shares ([bkD b, D.str s].map .im ++ List.replicate (4 - [bkD b, D.str s].length) .un) = B_read_shares [.im (bkD b), .im (.str s), .un, .un] from rfl]
  unfold B_read_shares
  rw [seq_nx lb]
  have t1 : fIfS (fNot (fTest (fIsi ["str"] (fVar 1)))) (fun _ => .err (Str.ofString "NoText")) fNx [.im (bkD b), .im (.str s), .un, .un] = .ok (.nx [.im (bkD b), .im (.str s), .un, .un]) := if_skip rfl
  rw [seq_nx t1]
  have s2 : fSplit (fVar 1) (fK (.str (Str.ofString " + "))) [.im (bkD b), .im (.str s), .un, .un] = .ok ((Txt.split s pl).map .str) := fSplit_ok (b := pl) rfl rfl (by decide +kernel) (by omega)
  have lc : fLcX [3] (.nm 3) (fIt true (fL (fSplit (fVar 1) (fK (.str (Str.ofString " + ")))))) (fun _ => .ok true) (fCall 1 F_share_in (fCons (fVar 3) fNil)) [.im (bkD b), .im (.str s), .un, .un] = match (Txt.split s pl).mapM (fun p => (shr p).map shrD) with
      | some ys => .ok ys
      | none => .err (Str.ofString "NoText") := by
    rw [fLcX_of (X := (Txt.split s pl).map .str) (by rw [x_fIt, fL_of s2]; rfl) (by
      have := split_le' s pl
      rw [List.length_map]
      omega)]
    refine lcGoX_opt (c := Str.ofString "NoText") D.str (fun p => (shr p).map shrD) (Txt.split s pl) fun x hx => ⟨[.im (bkD b), .im (.str s), .un, .im (.str x)], by simp, ?_⟩
    have f := F_sharein (split_ac ha hx) (Nat.le_trans (split_len hx) (by omega))
    cases hn : shr x with
    | none =>
      rw [hn] at f
      simp only [Option.map_none]
      simp [f]
    | some t =>
      rw [hn] at f
      simp only [Option.map_some]
      exact ⟨call_1 (a := .str x) rfl rfl f, rfl⟩
  have mm : ∀ l : List Str, l.mapM (fun p => (shr p).map shrD) = (l.mapM shr).map (·.map shrD) := by
    intro l
    induction l with
    | nil => rfl
    | cons x l ih =>
      rw [List.mapM_cons, List.mapM_cons, ih]
      cases shr x with
      | none => rfl
      | some t => cases l.mapM shr <;> rfl
  rw [mm] at lc
  cases hm : (Txt.split s pl).mapM shr with
  | none =>
    rw [hm] at lc
    have : fAsg (.nm 2) (fL (fLcX [3] (.nm 3) (fIt true (fL (fSplit (fVar 1) (fK (.str (Str.ofString " + ")))))) (fun _ => .ok true) (fCall 1 F_share_in (fCons (fVar 3) fNil)))) [.im (bkD b), .im (.str s), .un, .un] = .err (Str.ofString "NoText") := by
      rw [x_fAsg, x_fL, lc]; rfl
    rw [x_fSeq, this]
    rfl
  | some ts =>
    rw [hm] at lc
    simp only [Option.map_some] at lc
    have l63 := few ts hm
    have bits := read_facts hl hm
    have st : fAsg (.nm 2) (fL (fLcX [3] (.nm 3) (fIt true (fL (fSplit (fVar 1) (fK (.str (Str.ofString " + ")))))) (fun _ => .ok true) (fCall 1 F_share_in (fCons (fVar 3) fNil)))) [.im (bkD b), .im (.str s), .un, .un] = .ok (.nx [.im (bkD b), .im (.str s), .im (.lst (ts.map shrD)), .un]) := asg_to (fL_of lc) rfl (by simp) rfl
    rw [seq_nx st]
    have are := F_areshT (A := .lst (ts.map shrD)) h (.inl rfl) (fun t ht => ⟨by have := (bits t ht).1; omega, (bits t ht).2⟩) (by decide) l63
    have c1 : fCall 2 F_are_shares_in (fCons (fVar 0) (fCons (fVar 2) fNil)) [.im (bkD b), .im (.str s), .im (.lst (ts.map shrD)), .un] = .ok (.bl (shD b (ts.map shrD))) := call_2 rfl rfl rfl rfl are
    cases hs : shD b (ts.map shrD) with
    | false =>
      rw [hs] at c1
      rw [x_fSeq, x_fIfS, x_fOr, x_fNot, x_fTest, c1]
      simp only
      rw [hs]
      rfl
    | true =>
      rw [hs] at c1
      have al : (ts.map shrD).all (okPr b) = true := by
        unfold shD at hs
        rw [Bool.and_eq_true] at hs
        exact hs.1
      have ok := okPr_all al
      have wr : ∀ p ∈ kvT ts, Wr p := fun p hp => by
        obtain ⟨t, ht, rfl⟩ := List.mem_map.mp hp
        obtain ⟨_, _, q3, q4, q5⟩ := shrD_pr (ok t ht)
        obtain ⟨b1, b2, b3⟩ := bits t ht
        refine ⟨by show t.1.length ≤ 640; omega, ?_, ?_⟩
        · exact Rat.num_nonneg.mpr (Rat.le_of_lt q3)
        · have : Sm 1330 (qT t) := ⟨by rw [← q4]; exact b2, by rw [q5] at b3; simpa using b3⟩
          exact this.mono (by decide)
      have tx := F_textof (ps := kvT ts) (A := .lst (ts.map shrD)) (.inl (by rw [kv_pr ok])) wr (by unfold kvT; rw [List.length_map]; omega)
      have c2 : fCall 1 F_text_of (fCons (fVar 2) fNil) [.im (bkD b), .im (.str s), .im (.lst (ts.map shrD)), .un] = .ok (.str (txt (kvT ts))) := call_1 rfl rfl tx
      have tac : Ac (txt (kvT ts)) := txt_ac fun p hp => by
        have w := (wr p hp).2.1
        obtain ⟨t, ht, rfl⟩ := List.mem_map.mp hp
        exact ⟨nm_ac (h.nmOk (shrD_pr (ok t ht)).2.1), w⟩
      have ne := neD_str (r := [.im (bkD b), .im (.str s), .im (.lst (ts.map shrD)), .un]) tac.ok ha.ok
      have tst : fOr (fNot (fTest (fCall 2 F_are_shares_in (fCons (fVar 0) (fCons (fVar 2) fNil))))) (fTest (fBin neD (fCall 1 F_text_of (fCons (fVar 2) fNil)) (fVar 1))) [.im (bkD b), .im (.str s), .im (.lst (ts.map shrD)), .un] = .ok (!(txt (kvT ts) == s)) := by
        rw [x_fOr, x_fNot, x_fTest, c1, bnd_ok, x_boolOf, bnd_ok, bnd_ok]
        simp only [Bool.not_true, Bool.false_eq_true, if_false]
        rw [x_fTest, x_fBin, c2, bnd_ok, show fVar 1 [.im (bkD b), .im (.str s), .im (.lst (ts.map shrD)), .un] = .ok (.str s) from rfl, bnd_ok, ne]
        rfl
      rw [x_fSeq, x_fIfS, tst, bnd_ok]
      simp only
      rw [hs]
      cases (txt (kvT ts) == s) <;> rfl
end PL
end
section
namespace PL
open PySem PySem.Spec PyProof.Rows L2 PL.G TL
theorem istr_free {i : Int} (h : 0 ≤ i) {s : Nat} (hs : s < 48 ∨ 57 < s) : s ∉ tl (istr i) := by
  obtain ⟨n, rfl⟩ := istr_nat h
  exact isNum_free (isNum_istr n) hs
theorem ftx_free {q : Rat} (h : 0 ≤ q.num) {s : Nat} (hs : s < 47 ∨ 57 < s) : s ∉ tl (ftx q) := by
  have a := istr_free h (s := s) (by omega)
  have b := istr_free (i := (q.den : Int)) (by omega) (s := s) (by omega)
  unfold ftx
  split
  · exact a
  · rw [tl_append, tl_append, tl_sl]
    intro m
    rcases List.mem_append.mp m with m | m
    · rcases List.mem_append.mp m with m | m
      · exact a m
      · have := List.mem_singleton.mp m
        omega
    · exact b m
theorem pcx_free {p : Str × Rat} (h : 43 ∉ tl p.1) (hq : 0 ≤ p.2.num) : 43 ∉ tl (pcx p) := by
  unfold pcx
  rw [tl_append, tl_append, tl_sp]
  intro m
  rcases List.mem_append.mp m with m | m
  · rcases List.mem_append.mp m with m | m
    · exact h m
    · have := List.mem_singleton.mp m
      omega
  · exact ftx_free hq (by omega) m
theorem ftx_split {q : Rat} (hq : 0 ≤ q.num) : Txt.split (ftx q) sl = if q.den = 1 then [istr q.num] else [istr q.num, istr q.den] := by
  have a := istr_free hq (s := 47) (by omega)
  have b := istr_free (i := (q.den : Int)) (by omega) (s := 47) (by omega)
  unfold ftx
  split
  · exact split_sl1 a
  · exact split_sl2 a b
theorem num_istr {i : Int} (h : 0 ≤ i) : isNum (istr i) = true ∧ ((numV (istr i) : Nat) : Int) = i := by
  obtain ⟨n, rfl⟩ := istr_nat h
  exact ⟨isNum_istr n, by rw [numV_istr]⟩
theorem shr_pcx {n : Str} {q : Rat} (hn : 32 ∉ tl n) (hq : 0 ≤ q.num) : shr (pcx (n, q)) = some (n, q.num, (q.den : Int)) := by
  have e : Txt.split (pcx (n, q)) sp = [n, ftx q] := split_sp2 hn (ftx_free hq (by omega))
  obtain ⟨a1, a2⟩ := num_istr hq
  obtain ⟨b1, b2⟩ := num_istr (i := (q.den : Int)) (by omega)
  unfold shr
  rw [e]
  simp only
  rw [ftx_split hq]
  by_cases hd : q.den = 1
  · rw [if_pos hd]
    simp only
    rw [if_pos a1, a2, hd]
    rfl
  · rw [if_neg hd]
    simp only
    rw [a1, b1, a2, b2]
    rfl
theorem pieces_txt {ps : Kv} (hne : ps ≠ []) (h : ∀ p ∈ ps, 43 ∉ tl p.1 ∧ 0 ≤ p.2.num) : Txt.split (txt ps) pl = ps.map pcx := split_plus (by simpa using hne) fun x hx => by
  obtain ⟨p, hp, rfl⟩ := List.mem_map.mp hx
  exact pcx_free (h p hp).1 (h p hp).2
def tqOf (p : Str × Rat) : Tq := (p.1, p.2.num, (p.2.den : Int))
theorem shrD_tq (ps : Kv) : (ps.map tqOf).map shrD = ps.map pr := by
  rw [List.map_map]
  rfl
theorem kvT_tq (ps : Kv) : kvT (ps.map tqOf) = ps := by
  unfold kvT
  rw [List.map_map]
  conv => rhs; rw [← List.map_id ps]
  exact List.map_congr_left fun p _ => by
    show (p.1, Rat.divInt p.2.num p.2.den) = p
    rw [Rat.num_divInt_den]
theorem mapM_txt {ps : Kv} (hne : ps ≠ []) (h : ∀ p ∈ ps, Nm p.1 ∧ 0 ≤ p.2.num) : (Txt.split (txt ps) pl).mapM shr = some (ps.map tqOf) := by
  rw [pieces_txt hne fun p hp => ⟨nm_free (h p hp).1 (by omega), (h p hp).2⟩]
  refine mapM_iff.mpr ?_
  rw [List.map_map, List.map_map]
  exact List.map_congr_left fun p hp => shr_pcx (nm_free (h p hp).1 (by omega)) (h p hp).2
theorem read_back {m : Nat} {b : Bk} {ps : Kv} (h : Bok m b) (hne : ps ≠ []) (hp : ∀ p ∈ ps, Nm p.1 ∧ 0 ≤ p.2.num) (hl : ps.length ≤ 63) (tl4 : (txt ps).length ≤ 400) (hs : shD b (ps.map pr) = true) : F_read_shares [bkD b, .str (txt ps)] = .ok (.lst (ps.map pr)) := by
  have mm := mapM_txt hne hp
  rw [F_readsh h (txt_ac fun p q => ⟨nm_ac (hp p q).1, (hp p q).2⟩) tl4 (fun ts e => by
    rw [mm] at e
    cases e
    rw [List.length_map]
    exact hl), mm]
  simp only
  rw [shrD_tq, hs, kvT_tq, beq_self_eq_true]
  rfl
theorem canon_facts {m k : Nat} {b : Bk} {w : Str → Rat} (h : Bok m b) (hw : Wt (nms b) k w) (hk : k ≤ 1000) : (canon (nms b) w) ≠ [] ∧ (∀ p ∈ canon (nms b) w, Nm p.1 ∧ 0 ≤ p.2.num ∧ p.1 ∈ nms b ∧ 0 < p.2 ∧ Sm k p.2) ∧ (canon (nms b) w).length ≤ 6 ∧ shD b ((canon (nms b) w).map pr) = true := by
  have mem : ∀ p ∈ canon (nms b) w, p.1 ∈ nms b ∧ p.2 = w p.1 ∧ p.2 ≠ 0 := fun p hp => by
    obtain ⟨n, hn, rfl⟩ := List.mem_map.mp hp
    obtain ⟨h1, h2⟩ := List.mem_filter.mp hn
    exact ⟨h1, rfl, of_decide_eq_true h2⟩
  have facts : ∀ p ∈ canon (nms b) w, Nm p.1 ∧ 0 ≤ p.2.num ∧ p.1 ∈ nms b ∧ 0 < p.2 ∧ Sm k p.2 := fun p hp => by
    obtain ⟨h1, h2, h3⟩ := mem p hp
    have p0 := hw.pos p.1 h1
    rw [← h2] at p0
    have sm := hw.sm p.1 h1
    rw [← h2] at sm
    exact ⟨h.nmOk h1, Rat.num_nonneg.mpr p0, h1, by grind, sm⟩
  have len : (canon (nms b) w).length ≤ 6 := by
    unfold canon
    rw [List.length_map]
    exact Nat.le_trans (List.length_filter_le _ _) h.nlen
  have sh : shD b ((canon (nms b) w).map pr) = true := by
    have e1 := F_areshin (A := .lst ((canon (nms b) w).map pr)) h hw hk (.inl rfl)
    have e2 := F_areshT (k := 1000) (A := .lst ((canon (nms b) w).map pr)) (ts := (canon (nms b) w).map tqOf) h (.inl (by rw [shrD_tq])) (fun t ht => by
      obtain ⟨p, hp, rfl⟩ := List.mem_map.mp ht
      obtain ⟨q1, q2, q3, q4, q5⟩ := facts p hp
      have q6 := q5.mono hk
      have := nm_len q1
      exact ⟨by show p.1.length ≤ 1000; omega, q6.1, by show ((p.2.den : Nat) : Int).natAbs < _; simpa using q6.2⟩) (by decide) (by rw [List.length_map]; omega)
    rw [shrD_tq, e1] at e2
    injection e2 with e2
    injection e2 with e2
    exact e2.symm
  refine ⟨fun e => ?_, facts, len, sh⟩
  rw [e] at sh
  have : shD b ([] : List D) = true := sh
  unfold shD at this
  simp only [List.map_nil, List.all_nil, Bool.true_and, Bool.and_eq_true, decide_eq_true_eq] at this
  have z : sumR [] = (0 : Rat) := rfl
  rw [z] at this
  exact absurd this.2 (by decide)
theorem wt_read {m k : Nat} {b : Bk} {w : Str → Rat} (h : Bok m b) (hw : Wt (nms b) k w) (hk : k ≤ 1000) (tl4 : (txt (canon (nms b) w)).length ≤ 400) : F_read_shares [bkD b, .str (txt (canon (nms b) w))] = .ok (.lst ((canon (nms b) w).map pr)) := by
  obtain ⟨a1, a2, a3, a4⟩ := canon_facts h hw hk
  exact read_back h a1 (fun p hp => ⟨(a2 p hp).1, (a2 p hp).2.1⟩) (by omega) tl4 a4
theorem wt_text {m k : Nat} {b : Bk} {w : Str → Rat} {A : D} (h : Bok m b) (hw : Wt (nms b) k w) (hk : k ≤ 1000) (hA : SeqOf A ((canon (nms b) w).map pr)) : F_shares_text [bkD b, A] = .ok (.str (txt (canon (nms b) w))) := by
  obtain ⟨a1, a2, a3, a4⟩ := canon_facts h hw hk
  have ls := F_lookshares h hw hk hA
  have tx := F_textof hA (fun p hp => by
    obtain ⟨q1, q2, q3, q4, q5⟩ := a2 p hp
    have := nm_len q1
    exact ⟨by omega, q2, q5.mono (by omega)⟩) (by omega)
  refine run_rt (r0 := [.im (bkD b), .im A]) rfl ?_
  refine seq_go (r' := [.im (bkD b), .im A]) (by rw [x_fExpr, call_1 (a := bkD b) rfl rfl (F_lookbook h)]; rfl) ?_
  refine seq_go (r' := [.im (bkD b), .im A]) (by rw [x_fExpr, call_2 (a := bkD b) (b := A) rfl rfl rfl hA.im ls]; rfl) ?_
  exact ret_of (call_1 (a := A) rfl hA.im tx) rfl
end PL
end
section
namespace PL
open PySem PySem.Spec PyProof.Rows L2 PL.G TL
def canonN (x : Str) : Bool := isNum x && !decide ((tl x).head? = some 48)
theorem canonN_iff {x : Str} : canonN x = true ↔ isNum x = true ∧ (tl x).head? ≠ some 48 := by
  unfold canonN
  rw [Bool.and_eq_true, Bool.not_eq_true', decide_eq_false_iff_not]
def lwk (b : Bk) (p : Str) : Option Tq := match Txt.split p sp with
  | [a, w] => if decide (a ∈ nms b) && (decide ((Txt.split w sl).length ≤ 2) && (Txt.split w sl).all canonN) then (match Txt.split w sl with
    | [x] => some (a, numV x, 1)
    | [x, y] => if decide (Nat.gcd (numV x) (numV y) = 1) && !decide (numV y = 1) then some (a, numV x, numV y) else none
    | _ => none) else none
  | _ => none
theorem canon_istr {i : Int} (h : 0 < i) : canonN (istr i) = true := by
  obtain ⟨n, rfl⟩ := istr_nat (Int.le_of_lt h)
  refine canonN_iff.mpr ⟨isNum_istr n, ?_⟩
  obtain ⟨c, r, e, hc⟩ := numL_head (n := n) (by omega)
  rw [tl_istr, e]
  simp [hc]
theorem okPr_mk {b : Bk} {a : Str} {n d : Nat} (ha : a ∈ nms b) (hn : 0 < n) (hd : 0 < d) (hg : Nat.gcd n d = 1) : okPr b (shrD (a, (n : Int), (d : Int))) = true := by
  show (decide (a ∈ nms b) && ((decide (0 < (d : Int)) && (n : Int).gcd (d : Int) == 1) && decide (0 < (n : Int)))) = true
  have e : (n : Int).gcd (d : Int) = 1 := by rw [Int.gcd_natCast_natCast]; exact hg
  rw [decide_eq_true ha, decide_eq_true (by omega : 0 < (d : Int)), decide_eq_true (by omega : 0 < (n : Int)), e]
  rfl
theorem lwk_iff {b : Bk} {p : Str} {t : Tq} : lwk b p = some t ↔ shr p = some t ∧ okPr b (shrD t) = true ∧ pcx (t.1, qT t) = p := by
  constructor
  · intro h
    unfold lwk at h
    split at h
    · rename_i a w e1
      split at h
      · rename_i hc
        simp only [Bool.and_eq_true, decide_eq_true_eq, List.all_eq_true] at hc
        obtain ⟨ha, hl, hn⟩ := hc
        have ep := split_eq2 e1
        split at h
        · rename_i x e2
          cases h
          rw [e2] at hn
          obtain ⟨n1, n2⟩ := canonN_iff.mp (hn x (by simp))
          obtain ⟨b1, b2⟩ := istr_back n1 n2
          have ok := okPr_mk (b := b) (d := 1) ha b2 (by decide) (Nat.gcd_one_right _)
          obtain ⟨_, _, _, q4, q5⟩ := shrD_pr ok
          refine ⟨?_, ok, ?_⟩
          · unfold shr
            rw [e1]
            simp only
            rw [e2]
            simp only
            rw [if_pos n1]
          · have d1 : (qT (a, (numV x : Int), ((1 : Nat) : Int))).den = 1 := by
              have : ((1 : Nat) : Int) = _ := q5
              omega
            show a ++ sp ++ ftx (qT (a, (numV x : Int), ((1 : Nat) : Int))) = p
            unfold ftx
            rw [if_pos d1, ← q4]
            show a ++ sp ++ istr (numV x) = p
            rw [b1, ep, split_eq1 e2]
        · rename_i x y e2
          split at h
          · rename_i hg
            cases h
            simp only [Bool.and_eq_true, decide_eq_true_eq, Bool.not_eq_true', decide_eq_false_iff_not] at hg
            obtain ⟨hg, hd⟩ := hg
            rw [e2] at hn
            obtain ⟨n1, n2⟩ := canonN_iff.mp (hn x (by simp))
            obtain ⟨m1, m2⟩ := canonN_iff.mp (hn y (by simp))
            obtain ⟨b1, b2⟩ := istr_back n1 n2
            obtain ⟨c1, c2⟩ := istr_back m1 m2
            have ok := okPr_mk (b := b) ha b2 c2 hg
            obtain ⟨_, _, _, q4, q5⟩ := shrD_pr ok
            refine ⟨?_, ok, ?_⟩
            · unfold shr
              rw [e1]
              simp only
              rw [e2]
              simp only
              rw [n1, m1]
              rfl
            · have d1 : (qT (a, (numV x : Int), (numV y : Int))).den ≠ 1 := fun z => by
                have : ((numV y : Nat) : Int) = _ := q5
                omega
              show a ++ sp ++ ftx (qT (a, (numV x : Int), (numV y : Int))) = p
              unfold ftx
              rw [if_neg d1, ← q4, ← q5]
              show a ++ sp ++ (istr (numV x) ++ sl ++ istr (numV y)) = p
              rw [b1, c1, ep, ← split_eq2 e2]
          · cases h
        · cases h
      · cases h
    · cases h
  · rintro ⟨h1, h2, h3⟩
    obtain ⟨w, e1, _⟩ := shr_inv h1
    obtain ⟨_, ha, hq, q4, q5⟩ := shrD_pr h2
    obtain ⟨q, hqq⟩ : ∃ q, q = qT t := ⟨_, rfl⟩
    rw [← hqq] at hq q4 q5 h3
    have num : 0 < q.num := by
      have a0 := Rat.num_nonneg.mpr (Rat.le_of_lt hq)
      have a1 : q.num ≠ 0 := fun z => by
        have : q = 0 := Rat.num_eq_zero.mp z
        rw [this] at hq
        exact absurd hq (by decide)
      omega
    have ew : w = ftx q := by
      have ep := split_eq2 e1
      rw [← h3] at ep
      exact (app_inj_l ep).symm
    have s2 := ftx_split (q := q) (by omega)
    have den := q.den_pos
    unfold lwk
    rw [e1]
    simp only
    rw [ew, s2]
    obtain ⟨v1, v2⟩ := num_istr (i := q.num) (by omega)
    obtain ⟨u1, u2⟩ := num_istr (i := (q.den : Int)) (by omega)
    have cn := canon_istr num
    have cd := canon_istr (i := (q.den : Int)) (by omega)
    obtain ⟨a, n, d⟩ := t
    simp only at q4 q5 ha ⊢
    by_cases hd : q.den = 1
    · rw [if_pos hd]
      simp only [List.length_cons, List.length_nil, List.all_cons, List.all_nil, cn, decide_eq_true ha]
      refine (if_pos rfl).trans ?_
      rw [v2, q4, q5, hd]
      rfl
    · rw [if_neg hd]
      simp only [List.length_cons, List.length_nil, List.all_cons, List.all_nil, cn, cd, decide_eq_true ha]
      refine (if_pos rfl).trans ?_
      have g : Nat.gcd (numV (istr q.num)) (numV (istr (q.den : Int))) = 1 := by
        have e1 : numV (istr q.num) = q.num.natAbs := by omega
        have e2 : numV (istr (q.den : Int)) = q.den := by omega
        rw [e1, e2]
        exact q.reduced
      have nd : numV (istr (q.den : Int)) ≠ 1 := by omega
      rw [if_pos (by rw [decide_eq_true g, decide_eq_false nd]; rfl), v2, u2, q4, q5]
def lwGo (b : Bk) : Str → List Str → Option (List Tq)
  | _, [] => some []
  | last, p :: ps => match lwk b p with
    | none => none
    | some t => if strLt last t.1 then (lwGo b t.1 ps).map (t :: ·) else none
theorem lwGo_iff {b : Bk} : ∀ {ps : List Str} {last : Str} {ts : List Tq}, lwGo b last ps = some ts ↔ ps.mapM (lwk b) = some ts ∧ upB (last :: ts.map (·.1)) = true
  | [], last, ts => by
    rw [lwGo, List.mapM_nil]
    constructor
    · intro h; cases h; exact ⟨rfl, rfl⟩
    · rintro ⟨h, _⟩; exact h
  | p :: ps, last, ts => by
    have ih := fun last ts => lwGo_iff (b := b) (ps := ps) (last := last) (ts := ts)
    rw [lwGo, List.mapM_cons]
    cases hp : lwk b p with
    | none =>
      constructor
      · intro h; cases h
      · rintro ⟨h, _⟩; cases h
    | some t =>
      simp only
      constructor
      · intro h
        split at h
        · rename_i hl
          cases hg : lwGo b t.1 ps with
          | none => rw [hg] at h; cases h
          | some us =>
            rw [hg] at h
            cases h
            obtain ⟨i1, i2⟩ := (ih _ _).mp hg
            refine ⟨?_, ?_⟩
            · rw [i1]; rfl
            · show (strLt last t.1 && upB (t.1 :: us.map (·.1))) = true
              rw [hl, i2]; rfl
        · cases h
      · rintro ⟨h, hu⟩
        cases hm : ps.mapM (lwk b) with
        | none => rw [hm] at h; cases h
        | some us =>
          rw [hm] at h
          have e : ts = t :: us := by
            have : some (t :: us) = some ts := h
            cases this
            rfl
          subst e
          have hu' : (strLt last t.1 && upB (t.1 :: us.map (·.1))) = true := hu
          rw [Bool.and_eq_true] at hu'
          rw [if_pos hu'.1, (ih _ _).mpr ⟨hm, hu'.2⟩]
          rfl
noncomputable def readV (b : Bk) (s : Str) : Option (List Tq) := match lwGo b (Str.ofString "") (Txt.split s pl) with
  | some ts => if decide (sumR (ts.map qT) = 1) then some ts else none
  | none => none
theorem names_of {ts : List Tq} : (ts.map shrD).map nmOf = ts.map (·.1) := by
  rw [List.map_map]
  rfl
theorem fracs_of {ts : List Tq} : (ts.map shrD).map frOf = ts.map qT := by
  rw [List.map_map]
  rfl
theorem up_first {m : Nat} {b : Bk} (h : Bok m b) {xs : List Str} (hx : ∀ x ∈ xs, x ∈ nms b) : upB (Str.ofString "" :: xs) = upB xs := by
  cases xs with
  | nil => rfl
  | cons x xs =>
    have e : strLt (Str.ofString "") x = true := (h.nmOk (hx x (by simp))).2.2.2
    show (strLt (Str.ofString "") x && upB (x :: xs)) = _
    rw [e]
    rfl
theorem read_same {m : Nat} {b : Bk} {s : Str} (h : Bok m b) (ha : Ac s) (hl : s.length ≤ 300) : F_read_shares [bkD b, .str s] = match readV b s with
    | some ts => .ok (.lst (ts.map shrD))
    | none => .err (Str.ofString "NoText") := by
  rw [F_readsh h ha (by omega) (fun ts e => read_few hl e)]
  have ne : Txt.split s pl ≠ [] := fun e => by
    have := split_pos s pl
    rw [e] at this
    cases this
  cases hr : readV b s with
  | some ts =>
    unfold readV at hr
    cases hg : lwGo b (Str.ofString "") (Txt.split s pl) with
    | none => rw [hg] at hr; cases hr
    | some us =>
      rw [hg] at hr
      simp only at hr
      split at hr
      · rename_i hs
        cases hr
        obtain ⟨hm, hu⟩ := lwGo_iff.mp hg
        have e1 : (Txt.split s pl).mapM shr = some ts := by
          refine mapM_iff.mpr ?_
          rw [← mapM_iff.mp hm]
          refine List.map_congr_left fun p hp => ?_
          obtain ⟨t, _, e⟩ := mapM_mem2 hm hp
          rw [e]
          exact (lwk_iff.mp e).1
        have ok : ∀ t ∈ ts, okPr b (shrD t) = true := fun t ht => by
          obtain ⟨p, _, e⟩ := mapM_mem hm ht
          exact (lwk_iff.mp e).2.1
        have tx : txt (kvT ts) = s := by
          have e2 : (kvT ts).map pcx = Txt.split s pl := by
            have inj : ∀ {ps : List Str} {us : List Tq}, ps.map (lwk b) = us.map some → (kvT us).map pcx = ps := by
              intro ps
              induction ps with
              | nil =>
                intro us e
                cases us with
                | nil => rfl
                | cons _ _ => cases e
              | cons p ps ih =>
                intro us e
                cases us with
                | nil => cases e
                | cons u us =>
                  simp only [List.map_cons, List.cons.injEq] at e
                  have e3 := (lwk_iff.mp e.1).2.2
                  show pcx (u.1, qT u) :: (kvT us).map pcx = _
                  rw [e3, ih e.2]
            exact inj (mapM_iff.mp hm)
          unfold txt
          rw [e2, join_eq]
          exact StrLaws.join_split s pl
        rw [e1]
        simp only
        have sd : shD b (ts.map shrD) = true := by
          unfold shD
          rw [names_of, fracs_of, hs]
          have all : (ts.map shrD).all (okPr b) = true := List.all_eq_true.mpr fun d hd => by
            obtain ⟨t, ht, rfl⟩ := List.mem_map.mp hd
            exact ok t ht
          rw [all]
          rw [up_first h (fun x hx => by
            obtain ⟨t, ht, rfl⟩ := List.mem_map.mp hx
            exact (shrD_pr (ok t ht)).2.1)] at hu
          rw [hu]
          rfl
        rw [sd, tx, beq_self_eq_true]
        rfl
      · cases hr
  | none =>
    cases hm : (Txt.split s pl).mapM shr with
    | none => rfl
    | some ts =>
      simp only
      cases hc : (shD b (ts.map shrD) && (txt (kvT ts) == s)) with
      | false => rfl
      | true =>
        exfalso
        rw [Bool.and_eq_true, beq_iff_eq] at hc
        obtain ⟨sd, tx⟩ := hc
        unfold shD at sd
        rw [names_of, fracs_of] at sd
        simp only [Bool.and_eq_true] at sd
        obtain ⟨al, hu, hs⟩ := sd
        have ok := okPr_all al
        have tne : kvT ts ≠ [] := fun e => by
          have l := mapM_len hm
          have : ts = [] := by
            unfold kvT at e
            simpa using e
          rw [this] at l
          exact ne (List.length_eq_zero_iff.mp l.symm)
        have pc := pieces_txt tne (fun p hp => by
          obtain ⟨t, ht, rfl⟩ := List.mem_map.mp hp
          obtain ⟨_, q2, q3, _, _⟩ := shrD_pr (ok t ht)
          exact ⟨nm_free (h.nmOk q2) (by omega), Rat.num_nonneg.mpr (Rat.le_of_lt q3)⟩)
        rw [tx] at pc
        have lw : (Txt.split s pl).mapM (lwk b) = some ts := by
          refine mapM_iff.mpr ?_
          have e := mapM_iff.mp hm
          rw [pc] at e ⊢
          unfold kvT at e ⊢
          rw [List.map_map, List.map_map] at e ⊢
          have key : ∀ {us : List Tq}, (∀ t ∈ us, okPr b (shrD t) = true) → us.map (shr ∘ pcx ∘ fun t => (t.1, qT t)) = us.map some → us.map (lwk b ∘ pcx ∘ fun t => (t.1, qT t)) = us.map some := by
            intro us
            induction us with
            | nil => intro _ _; rfl
            | cons u us ih =>
              intro ho he
              simp only [List.map_cons, List.cons.injEq] at he ⊢
              exact ⟨lwk_iff.mpr ⟨he.1, ho u (by simp), rfl⟩, ih (fun t ht => ho t (List.mem_cons_of_mem _ ht)) he.2⟩
          exact key ok e
        have hg : lwGo b (Str.ofString "") (Txt.split s pl) = some ts := lwGo_iff.mpr ⟨lw, by
          rw [up_first h (fun x hx => by
            obtain ⟨t, ht, rfl⟩ := List.mem_map.mp hx
            exact (shrD_pr (ok t ht)).2.1)]
          exact hu⟩
        unfold readV at hr
        rw [hg] at hr
        simp only at hr
        rw [hs] at hr
        cases hr
end PL
end
section
namespace PL
open PySem PySem.Spec PyProof.Rows L2 PL.G TL
theorem cutS_ac {x : Str} (h : Ac x) (lo hi : Option Int) : Ac (cutS x lo hi) := fun c hc => by
  have hc' : c ∈ (x.cps.toList.drop (HT.sIx x.length 0 lo)).take (HT.sIx x.length x.length hi - HT.sIx x.length 0 lo) := hc
  exact h c (List.mem_of_mem_drop (List.mem_of_mem_take hc'))
theorem cutS_len (x : Str) (lo hi : Option Int) : (cutS x lo hi).length ≤ x.length := by
  have e : (cutS x lo hi).length = ((x.cps.toList.drop (HT.sIx x.length 0 lo)).take (HT.sIx x.length x.length hi - HT.sIx x.length 0 lo)).length := by
    show ((x.cps.toList.drop _).take _).toArray.size = _
    simp
  rw [e]
  have : x.cps.toList.length = x.length := Array.length_toList
  simp only [List.length_take, List.length_drop]
  omega
structure Spo (T S : Str) : Prop where
  ac : Ac S
  len : S.length ≤ 2 * T.length + 1
noncomputable def tailS : Rho → R Fl := (fSeq (fIfS (fTest (fBin ltD (fVar 6) (fK (.int 2)))) (fRet (fBin addD (fBin addD (fSl (fVar 0) (fun _ => .ok none) (fun r => ((fVar 3) r).bnd intOf)) (fVar 4)) (fSl (fVar 0) (fun r => ((fVar 3) r).bnd intOf) (fun _ => .ok none)))) fNx)
    (fSeq (fIfS (fTest (fBin eqD (fVar 6) (fK (.int 2)))) (fRet (fBin addD (fSl (fVar 0) (fun _ => .ok none) (fun r => ((fVar 3) r).bnd intOf)) (fSl (fVar 0) (fun r => ((fBin addD (fVar 3) (fK (.int 1))) r).bnd intOf) (fun _ => .ok none)))) fNx)
    (fSeq (fIfS (fTest (fBin ltD (fVar 6) (fK (.int 5)))) (fRet (fBin addD (fBin addD (fSl (fVar 0) (fun _ => .ok none) (fun r => ((fVar 3) r).bnd intOf)) (fVar 4)) (fSl (fVar 0) (fun r => ((fBin addD (fVar 3) (fK (.int 1))) r).bnd intOf) (fun _ => .ok none)))) fNx)
    (fSeq (fIfS (fTest (fBin eqD (fVar 6) (fK (.int 5)))) (fRet (fBin addD (fSl (fVar 0) (fun _ => .ok none) (fun r => ((fVar 3) r).bnd intOf)) (fSl (fVar 0) (fun r => ((fVar 5) r).bnd intOf) (fun _ => .ok none)))) fNx)
    (fSeq (fIfS (fTest (fBin eqD (fVar 6) (fK (.int 6)))) (fRet (fBin addD (fSl (fVar 0) (fun _ => .ok none) (fun r => ((fVar 5) r).bnd intOf)) (fSl (fVar 0) (fun r => ((fVar 3) r).bnd intOf) (fun _ => .ok none)))) fNx)
    (fRet (fBin ixD (fL (fLst (fCons (fBin addD (fVar 0) (fK (.str (Str.ofString " ")))) (fCons (fBin addD (fK (.str (Str.ofString " "))) (fVar 0)) (fCons (fBin addD (fSl (fVar 0) (fun r => ((fVar 3) r).bnd intOf) (fun _ => .ok none)) (fSl (fVar 0) (fun _ => .ok none) (fun r => ((fVar 3) r).bnd intOf))) (fCons (fK (.str (Str.ofString ""))) (fCons (fBin addD (fVar 0) (fVar 0)) fNil))))))) (fBin modI (fVar 1) (fK (.int 5))))))))))
theorem F_lawspoilt {T G : Str} {cell : Int} (hT : Ac T) (hG : Ac G) (hl : T.length ≤ 20000) (g1 : 1 ≤ G.length) (g2 : G.length ≤ 1000) : ∃ S, F_u_law_spoilt [.str T, .int cell, .str G] = .ok (.str S) ∧ Spo T S := by
  obtain ⟨n, hn⟩ : ∃ n : Nat, n = T.length := ⟨_, rfl⟩
  have lenT : ∀ r, lenD r [.str T] = .ok (.int n) := fun r => by
    unfold lenD
    simp [show T.length ≤ sizeLine from sz_le (by omega), hn]
  have lenG : ∀ r, lenD r [.str G] = .ok (.int G.length) := fun r => by
    unfold lenD
    simp [show G.length ≤ sizeLine from sz_le (by omega)]
  have dv : ∀ {j : Int}, 0 < j → j.natAbs < 2 ^ 64 → divB j = true := fun {j} h1 h2 => okB_iff.mpr ⟨h1, Nat.lt_of_lt_of_le (log2_lt_bits h2) (by decide)⟩
  have d1 := dv (j := 1000) (by decide) (by decide)
  have d2 := dv (j := 7) (by decide) (by decide)
  have d3 := dv (j := 100000) (by decide) (by decide)
  obtain ⟨at', hat⟩ : ∃ a : Int, a = cell.fmod ((n : Int) + 1) := ⟨_, rfl⟩
  obtain ⟨k, hk⟩ : ∃ a : Int, a = (cell / 1000).fmod (G.length : Int) := ⟨_, rfl⟩
  have k0 : 0 ≤ k := by rw [hk]; exact Int.fmod_nonneg_of_pos _ (by omega)
  have k1 : k < G.length := by rw [hk]; exact Int.fmod_lt_of_pos _ (by omega)
  have gl : G.cps.toList.length = G.length := Array.length_toList
  obtain ⟨kn, rfl⟩ : ∃ kn : Nat, k = (kn : Int) := ⟨k.toNat, (Int.toNat_of_nonneg k0).symm⟩
  obtain ⟨c, hc⟩ : ∃ c, G.cps.toList[kn]? = some c := ⟨G.cps.toList[kn]'(by omega), List.getElem?_eq_getElem (by omega)⟩
  have cG := hG c (List.mem_of_getElem? hc)
  have ixG : ∀ r, ixD r (.str G) (.int (kn : Int)) = .ok (.str ⟨#[c]⟩) := fun r => by
    unfold ixD
    simp only [show decide (G.length ≤ sizeLine) = true from decide_eq_true (sz_le (by omega)), if_true, L2.atI_nat hc]
  have one : (⟨#[c]⟩ : Str).length = 1 := rfl
  have acc : Ac ⟨#[c]⟩ := fun d hd => by
    have : d ∈ [c] := hd
    rw [List.mem_singleton.mp this]
    exact cG
  obtain ⟨on, hon⟩ : ∃ a : Int, a = at' + 1 + (cell / 7).fmod 9 := ⟨_, rfl⟩
  obtain ⟨way, hway⟩ : ∃ a : Int, a = (cell / 100000).fmod 8 := ⟨_, rfl⟩
  obtain ⟨r, hr⟩ : ∃ r : Rho, r = [.im (.str T), .im (.int cell), .im (.str G), .im (.int at'), .im (.str ⟨#[c]⟩), .im (.int on), .im (.int way)] := ⟨_, rfl⟩
  have sl : ∀ lo hi, slD r (.str T) lo hi = .ok (.str (cutS T lo hi)) := fun lo hi => by
    unfold slD
    simp only [show decide (T.length ≤ sizeLine) = true from decide_eq_true (sz_le (by omega)), if_true]
  have sT : ∀ fl fh lo hi, fl r = .ok lo → fh r = .ok hi → fSl (fVar 0) fl fh r = .ok (.str (cutS T lo hi)) := fun fl fh lo hi h1 h2 => by
    rw [x_fSl, show fVar 0 r = .ok (.str T) from by rw [hr]; rfl, bnd_ok, h1, bnd_ok, h2, bnd_ok, sl]
  have add : ∀ (f g : Rho → R D) (x y : Str), f r = .ok (.str x) → g r = .ok (.str y) → x.length + y.length ≤ 100000 → fBin addD f g r = .ok (.str (x ++ y)) := fun f g x y h1 h2 h3 => by
    rw [x_fBin, h1, bnd_ok, h2, bnd_ok]
    exact addD_str h3
  have v3 : (fun r => ((fVar 3) r).bnd intOf) r = .ok (some at') := by rw [hr]; rfl
  have v5 : (fun r => ((fVar 5) r).bnd intOf) r = .ok (some on) := by rw [hr]; rfl
  have v31 : (fun r => ((fBin addD (fVar 3) (fK (.int 1))) r).bnd intOf) r = .ok (some (at' + 1)) := by rw [hr]; rfl
  have no : (fun _ : Rho => (R.ok none : R (Option Int))) r = .ok none := rfl
  have cl := fun lo hi => cutS_len T lo hi
  have ca := fun lo hi => cutS_ac hT lo hi
  have v4 : fVar 4 r = .ok (.str ⟨#[c]⟩) := by rw [hr]; rfl
  have w6 : fVar 6 r = .ok (.int way) := by rw [hr]; rfl
  have start : ∀ (S : Str), tailS r = .ok (.rt (.str S)) → F_u_law_spoilt [.str T, .int cell, .str G] = .ok (.str S) := fun S hq => by
    refine run_rt (r0 := [.im (.str T), .im (.int cell), .im (.str G), .un, .un, .un, .un]) rfl ?_
    have n1 : ((n : Int) + 1) ≠ 0 := by omega
    have g0 : ¬ G.length = 0 := by omega
    refine seq_go (r' := [.im (.str T), .im (.int cell), .im (.str G), .im (.int at'), .un, .un, .un]) (asg_to (d := .int at') ?_ rfl (by simp) rfl) ?_
    · simp [lenT, n1, hat]
    refine seq_go (r' := [.im (.str T), .im (.int cell), .im (.str G), .im (.int at'), .im (.str ⟨#[c]⟩), .un, .un]) (asg_to (d := .str ⟨#[c]⟩) ?_ rfl (by simp) rfl) ?_
    · simp [lenG, g0, d1]
      rw [← hk]
      exact ixG _
    refine seq_go (r' := [.im (.str T), .im (.int cell), .im (.str G), .im (.int at'), .im (.str ⟨#[c]⟩), .im (.int on), .un]) (asg_to (d := .int on) ?_ rfl (by simp) rfl) ?_
    · simp [d2, hon]
    refine seq_go (r' := r) (asg_to (d := .int way) ?_ rfl (by simp) (by rw [hr]; rfl)) hq
    · simp [d3, hway]
  unfold tailS at start
  have lt : ∀ k : Int, fTest (fBin ltD (fVar 6) (fK (.int k))) r = .ok (decide (way < k)) := fun k => by
    rw [x_fTest, x_fBin, w6]
    rfl
  have eq : ∀ k : Int, fTest (fBin eqD (fVar 6) (fK (.int k))) r = .ok (way == k) := fun k => by
    rw [x_fTest, x_fBin, w6]
    show ((eqD r (.int way) (.int k)).bnd _) = _
    rw [x_eqD_int]
    rfl
  have no2 : ∀ {k : Int}, ¬ way < k → fTest (fBin ltD (fVar 6) (fK (.int k))) r = .ok false := fun {k} h => by rw [lt, decide_eq_false h]
  have ne2 : ∀ {k : Int}, ¬ way = k → fTest (fBin eqD (fVar 6) (fK (.int k))) r = .ok false := fun {k} h => by
    rw [eq]
    congr 1
    simpa using h
  have s3 : ∀ (lo lo2 hi hi2 : Option Int), (cutS T lo hi ++ ⟨#[c]⟩ ++ cutS T lo2 hi2).length ≤ 2 * T.length + 1 := fun lo lo2 hi hi2 => by
    have := cl lo hi
    have := cl lo2 hi2
    rw [len_app, len_app, one]
    omega
  have s2 : ∀ (lo lo2 hi hi2 : Option Int), (cutS T lo hi ++ cutS T lo2 hi2).length ≤ 2 * T.length + 1 := fun lo lo2 hi hi2 => by
    have := cl lo hi
    have := cl lo2 hi2
    rw [len_app]
    omega
  have b3 : ∀ (lo lo2 hi hi2 : Option Int), (cutS T lo hi).length + (⟨#[c]⟩ : Str).length ≤ 100000 ∧ (cutS T lo hi ++ ⟨#[c]⟩).length + (cutS T lo2 hi2).length ≤ 100000 ∧ (cutS T lo hi).length + (cutS T lo2 hi2).length ≤ 100000 := fun lo lo2 hi hi2 => by
    have := cl lo hi
    have := cl lo2 hi2
    rw [len_app, one]
    omega
  have to3 : fSl (fVar 0) (fun _ => .ok none) (fun r => ((fVar 3) r).bnd intOf) r = .ok (.str (cutS T none (some at'))) := sT (fun _ => .ok none) (fun r => ((fVar 3) r).bnd intOf) none (some at') no v3
  have fr3 : fSl (fVar 0) (fun r => ((fVar 3) r).bnd intOf) (fun _ => .ok none) r = .ok (.str (cutS T (some at') none)) := sT (fun r => ((fVar 3) r).bnd intOf) (fun _ => .ok none) (some at') none v3 no
  have fr31 : fSl (fVar 0) (fun r => ((fBin addD (fVar 3) (fK (.int 1))) r).bnd intOf) (fun _ => .ok none) r = .ok (.str (cutS T (some (at' + 1)) none)) := sT (fun r => ((fBin addD (fVar 3) (fK (.int 1))) r).bnd intOf) (fun _ => .ok none) (some (at' + 1)) none v31 no
  have to5 : fSl (fVar 0) (fun _ => .ok none) (fun r => ((fVar 5) r).bnd intOf) r = .ok (.str (cutS T none (some on))) := sT (fun _ => .ok none) (fun r => ((fVar 5) r).bnd intOf) none (some on) no v5
  have fr5 : fSl (fVar 0) (fun r => ((fVar 5) r).bnd intOf) (fun _ => .ok none) r = .ok (.str (cutS T (some on) none)) := sT (fun r => ((fVar 5) r).bnd intOf) (fun _ => .ok none) (some on) none v5 no
  by_cases c1 : way < 2
  · refine ⟨cutS T none (some at') ++ ⟨#[c]⟩ ++ cutS T (some at') none, start _ (seq_rt ?_), ((ca none (some at')).app acc).app (ca (some at') none), s3 none (some at') (some at') none⟩
    rw [if_yes (by rw [lt, decide_eq_true c1])]
    exact ret_of (add (fBin addD (fSl (fVar 0) (fun _ => .ok none) (fun r => ((fVar 3) r).bnd intOf)) (fVar 4)) (fSl (fVar 0) (fun r => ((fVar 3) r).bnd intOf) (fun _ => .ok none)) _ _ (add (fSl (fVar 0) (fun _ => .ok none) (fun r => ((fVar 3) r).bnd intOf)) (fVar 4) _ _ to3 v4 (b3 none none (some at') none).1) fr3 (b3 none (some at') (some at') none).2.1) rfl
  by_cases c2 : way = 2
  · refine ⟨cutS T none (some at') ++ cutS T (some (at' + 1)) none, start _ (seq_go (if_skip (no2 c1)) (seq_rt ?_)), (ca _ _).app (ca _ _), s2 _ _ _ _⟩
    rw [if_yes (by rw [eq]; simp [c2])]
    exact ret_of (add (fSl (fVar 0) (fun _ => .ok none) (fun r => ((fVar 3) r).bnd intOf)) (fSl (fVar 0) (fun r => ((fBin addD (fVar 3) (fK (.int 1))) r).bnd intOf) (fun _ => .ok none)) _ _ to3 fr31 (b3 none (some (at' + 1)) (some at') none).2.2) rfl
  by_cases c3 : way < 5
  · refine ⟨cutS T none (some at') ++ ⟨#[c]⟩ ++ cutS T (some (at' + 1)) none, start _ (seq_go (if_skip (no2 c1)) (seq_go (if_skip (ne2 c2)) (seq_rt ?_))), ((ca none (some at')).app acc).app (ca (some (at' + 1)) none), s3 none (some (at' + 1)) (some at') none⟩
    rw [if_yes (by rw [lt, decide_eq_true c3])]
    exact ret_of (add (fBin addD (fSl (fVar 0) (fun _ => .ok none) (fun r => ((fVar 3) r).bnd intOf)) (fVar 4)) (fSl (fVar 0) (fun r => ((fBin addD (fVar 3) (fK (.int 1))) r).bnd intOf) (fun _ => .ok none)) _ _ (add (fSl (fVar 0) (fun _ => .ok none) (fun r => ((fVar 3) r).bnd intOf)) (fVar 4) _ _ to3 v4 (b3 none none (some at') none).1) fr31 (b3 none (some (at' + 1)) (some at') none).2.1) rfl
  by_cases c4 : way = 5
  · refine ⟨cutS T none (some at') ++ cutS T (some on) none, start _ (seq_go (if_skip (no2 c1)) (seq_go (if_skip (ne2 c2)) (seq_go (if_skip (no2 c3)) (seq_rt ?_)))), (ca _ _).app (ca _ _), s2 _ _ _ _⟩
    rw [if_yes (by rw [eq]; simp [c4])]
    exact ret_of (add (fSl (fVar 0) (fun _ => .ok none) (fun r => ((fVar 3) r).bnd intOf)) (fSl (fVar 0) (fun r => ((fVar 5) r).bnd intOf) (fun _ => .ok none)) _ _ to3 fr5 (b3 none (some on) (some at') none).2.2) rfl
  by_cases c5 : way = 6
  · refine ⟨cutS T none (some on) ++ cutS T (some at') none, start _ (seq_go (if_skip (no2 c1)) (seq_go (if_skip (ne2 c2)) (seq_go (if_skip (no2 c3)) (seq_go (if_skip (ne2 c4)) (seq_rt ?_))))), (ca _ _).app (ca _ _), s2 _ _ _ _⟩
    rw [if_yes (by rw [eq]; simp [c5])]
    exact ret_of (add (fSl (fVar 0) (fun _ => .ok none) (fun r => ((fVar 5) r).bnd intOf)) (fSl (fVar 0) (fun r => ((fVar 3) r).bnd intOf) (fun _ => .ok none)) _ _ to5 fr3 (b3 none (some at') (some on) none).2.2) rfl
  obtain ⟨m, hm⟩ : ∃ a : Int, a = cell.fmod 5 := ⟨_, rfl⟩
  have m0 : 0 ≤ m := by rw [hm]; exact Int.fmod_nonneg_of_pos _ (by omega)
  have m5 : m < 5 := by rw [hm]; exact Int.fmod_lt_of_pos _ (by omega)
  have v0 : fVar 0 r = .ok (.str T) := by rw [hr]; rfl
  have asp : Ac sp := ac_dec (by decide +kernel)
  have l1 : fL (fLst (fCons (fBin addD (fVar 0) (fK (.str (Str.ofString " ")))) (fCons (fBin addD (fK (.str (Str.ofString " "))) (fVar 0)) (fCons (fBin addD (fSl (fVar 0) (fun r => ((fVar 3) r).bnd intOf) (fun _ => .ok none)) (fSl (fVar 0) (fun _ => .ok none) (fun r => ((fVar 3) r).bnd intOf))) (fCons (fK (.str (Str.ofString ""))) (fCons (fBin addD (fVar 0) (fVar 0)) fNil)))))) r =
      .ok (.lst ([T ++ sp, sp ++ T, cutS T (some at') none ++ cutS T none (some at'), Str.ofString "", T ++ T].map .str)) := by
    have e1 := add (fVar 0) (fK (.str (Str.ofString " "))) T sp v0 rfl (by rw [sp_len]; omega)
    have e2 := add (fK (.str (Str.ofString " "))) (fVar 0) sp T rfl v0 (by rw [sp_len]; omega)
    have e3 := add (fSl (fVar 0) (fun r => ((fVar 3) r).bnd intOf) (fun _ => .ok none)) (fSl (fVar 0) (fun _ => .ok none) (fun r => ((fVar 3) r).bnd intOf)) _ _ fr3 to3 (b3 (some at') none none (some at')).2.2
    have e5 := add (fVar 0) (fVar 0) T T v0 v0 (by omega)
    rw [x_fL, x_fLst, x_fCons, e1, bnd_ok, x_imD_str, bnd_ok, x_fCons, e2, bnd_ok, x_imD_str, bnd_ok, x_fCons, e3, bnd_ok, x_imD_str, bnd_ok, x_fCons]
    rw [show fK (.str (Str.ofString "")) r = .ok (.str (Str.ofString "")) from rfl, bnd_ok, x_imD_str, bnd_ok, x_fCons, e5, bnd_ok, x_imD_str, bnd_ok, x_fNil]
    rfl
  obtain ⟨mn, rfl⟩ : ∃ mn : Nat, m = (mn : Int) := ⟨m.toNat, (Int.toNat_of_nonneg m0).symm⟩
  have cell5 : fBin modI (fVar 1) (fK (.int 5)) r = .ok (.int (mn : Int)) := by
    rw [x_fBin, show fVar 1 r = .ok (.int cell) from by rw [hr]; rfl, bnd_ok]
    show modI r (.int cell) (.int 5) = _
    rw [x_modI, if_pos (by decide), ← hm]
  obtain ⟨S, hS⟩ : ∃ S, [T ++ sp, sp ++ T, cutS T (some at') none ++ cutS T none (some at'), Str.ofString "", T ++ T][mn]? = some S := ⟨_, List.getElem?_eq_getElem (by simp; omega)⟩
  have hmem := List.mem_of_getElem? hS
  refine ⟨S, start _ (seq_go (if_skip (no2 c1)) (seq_go (if_skip (ne2 c2)) (seq_go (if_skip (no2 c3)) (seq_go (if_skip (ne2 c4)) (seq_go (if_skip (ne2 c5)) (ret_of (d := .str S) ?_ rfl)))))), ?_, ?_⟩
  · rw [x_fBin, l1, bnd_ok, cell5, bnd_ok]
    exact ix_lst (by rw [List.getElem?_map, hS]; rfl)
  · simp only [List.mem_cons, List.not_mem_nil, or_false] at hmem
    rcases hmem with rfl | rfl | rfl | rfl | rfl
    · exact hT.app asp
    · exact asp.app hT
    · exact (ca _ _).app (ca _ _)
    · exact ac_dec (by decide +kernel)
    · exact hT.app hT
  · simp only [List.mem_cons, List.not_mem_nil, or_false] at hmem
    have e0 : (Str.ofString "").length = 0 := by decide +kernel
    rcases hmem with rfl | rfl | rfl | rfl | rfl
    · rw [len_app, sp_len]; omega
    · rw [len_app, sp_len]; omega
    · exact s2 _ _ _ _
    · rw [e0]; omega
    · rw [len_app]; omega
end PL
end
section
namespace PL
open PySem PySem.Spec PyProof.Rows L2 PL.G TL
theorem eq_empty {r : Rho} {x : Str} (ha : Ac x) : eqD r (.str x) (.str (Str.ofString "")) = .ok (.bl (tl x).isEmpty) := by
  rw [eqD_str ha.ok (by decide +kernel)]
  congr 2
  rw [Bool.eq_iff_iff, beq_iff_eq, List.isEmpty_iff]
  constructor
  · rintro rfl; decide +kernel
  · intro h; exact ext_tl (by rw [h]; decide +kernel)
theorem ac_one {c : Nat} (h : c < 128) : Ac ⟨#[c]⟩ := fun d hd => by
  have : d ∈ [c] := hd
  rw [List.mem_singleton.mp this]
  exact h
theorem ne_nilL {r : Rho} {xs : List D} (h : ∀ d ∈ xs, Dep 0 d) : neD r (.lst xs) (.lst []) = .ok (.bl (!xs.isEmpty)) := by
  have d1 := dep_lst (n := 0) h
  have d2 := dep_lst (n := 0) (ds := []) (by simp)
  unfold neD
  rw [pyT_of (dep_noOwn d1), pyT_of (dep_noOwn d2), d1.shaped (by decide), d2.shaped (by decide)]
  cases xs with
  | nil => rfl
  | cons d ds => simp [py, pys, PyData.eqv, PyData.eqvAll]
theorem ne_ii {r : Rho} {a c e f : Int} : neD r (.tup [.int a, .int c]) (.tup [.int e, .int f]) = .ok (.bl (!(a == e && c == f))) := by
  have dd : ∀ x y : Int, Dep 1 (.tup [.int x, .int y]) := fun x y => dep_tup (n := 0) fun d hd => by
    simp only [List.mem_cons, List.not_mem_nil, or_false] at hd
    rcases hd with rfl | rfl
    · exact dep_int 0 _
    · exact dep_int 0 _
  unfold neD
  rw [pyT_of rfl, pyT_of rfl, (dd a c).shaped (by decide), (dd e f).shaped (by decide)]
  simp [py, pys, PyData.eqv, PyData.eqvAll]
noncomputable abbrev nBody (q : D) : Rho → R Fl := fIfS (fOr (fTest (fBin eqD (fVar 7) (fK (.str (Str.ofString ""))))) (fOr (fTest (fBin neD (fL (fLc [9] (.nm 9) (fIt true (fVar 7)) (fNot (fTest (fChain leD leD (fK (.str (Str.ofString "0"))) (fVar 9) (fK (.str (Str.ofString "9")))))) (fVar 9))) (fL (fLst fNil)))) (fTest (fBin eqD (fBin ixD (fVar 7) (fK (.int 0))) (fK (.str (Str.ofString "0"))))))) (fRet (fK q)) fNx
def digC (c : Nat) : Bool := decide (48 ≤ c) && decide (c ≤ 57)
theorem strLt_one (a c : Nat) : strLt ⟨#[a]⟩ ⟨#[c]⟩ = decide (a < c) := by
  unfold strLt
  show decide ([a] < [c]) = _
  rw [Bool.eq_iff_iff, decide_eq_true_eq, decide_eq_true_eq]
  constructor
  · intro h
    cases h with
    | rel h => exact h
    | cons h => cases h
  · exact fun h => List.Lex.rel h
theorem nBody_ok {a0 a1 a2 a3 a4 a5 a6 a8 a9 a10 : Sl} {x : Str} {q : Str} (ha : Ac x) (hl : x.length ≤ 1000) :
    nBody (.str q) [a0, a1, a2, a3, a4, a5, a6, .im (.str x), a8, a9, a10] = if canonN x then .ok (.nx [a0, a1, a2, a3, a4, a5, a6, .im (.str x), a8, a9, a10]) else .ok (.rt (.str q)) := by
  obtain ⟨r, hr⟩ : ∃ r : Rho, r = [a0, a1, a2, a3, a4, a5, a6, .im (.str x), a8, a9, a10] := ⟨_, rfl⟩
  have v7 : fVar 7 r = .ok (.str x) := by rw [hr]; rfl
  have t1 : fTest (fBin eqD (fVar 7) (fK (.str (Str.ofString "")))) r = .ok (tl x).isEmpty := by
    rw [x_fTest, x_fBin, v7]
    show ((eqD r (.str x) (.str (Str.ofString ""))).bnd _) = _
    rw [eq_empty ha]
    rfl
  have lc : fLc [9] (.nm 9) (fIt true (fVar 7)) (fNot (fTest (fChain leD leD (fK (.str (Str.ofString "0"))) (fVar 9) (fK (.str (Str.ofString "9")))))) (fVar 9) r = .ok ((((tl x).filter fun c => !digC c)).map fun c => D.str ⟨#[c]⟩) := by
    have hlen : (signs x).length < 100000 := by
      have : (signs x).length = x.length := by simp [signs, Str.length]
      omega
    have h1 : fIt true (fVar 7) r = .ok (signs x) := by rw [x_fIt, v7]; simp [itemsD]
    rw [x_fLc, h1, bnd_ok, if_pos (decide_eq_true (sz_lt' hlen))]
    refine lcGo_typed (t := .nm 9) (fun c : Nat => D.str ⟨#[c]⟩) (fun c => !digC c) (fun c => D.str ⟨#[c]⟩) x.cps.toList fun c hc => ⟨(wipeR r [9]).set 9 (.im (.str ⟨#[c]⟩)), ?_, ?_, fun _ => ⟨?_, rfl⟩⟩
    · rw [hr]; rfl
    · have v9 : fVar 9 ((wipeR r [9]).set 9 (.im (.str ⟨#[c]⟩))) = .ok (.str ⟨#[c]⟩) := by rw [hr]; rfl
      have z0 : Str.ofString "0" = ⟨#[48]⟩ := by decide +kernel
      have z9 : Str.ofString "9" = ⟨#[57]⟩ := by decide +kernel
      rw [x_fNot, x_fTest, x_fChain]
      rw [show ∀ d r, fK d r = .ok d from fun _ _ => rfl, bnd_ok, v9, bnd_ok]
      show (((R.ok (D.bl (!strLt ⟨#[c]⟩ (Str.ofString "0")))).bnd _).bnd _).bnd _ = _
      rw [z0, strLt_one, bnd_ok, x_boolOf, bnd_ok]
      by_cases h48 : c < 48
      · have : ¬ 48 ≤ c := by omega
        simp [h48, digC, this]
      · have h48' : 48 ≤ c := by omega
        rw [decide_eq_false h48]
        simp only [Bool.not_false, if_true, bnd_ok]
        show ((R.ok (D.bl (!strLt (Str.ofString "9") ⟨#[c]⟩))).bnd _).bnd _ = _
        rw [z9, strLt_one]
        by_cases h57 : c ≤ 57
        · have : ¬ 57 < c := by omega
          simp [digC, h48', h57, this]
        · have : 57 < c := by omega
          simp [digC, h48', h57, this]
    · rw [hr]; rfl
  have t2 : fTest (fBin neD (fL (fLc [9] (.nm 9) (fIt true (fVar 7)) (fNot (fTest (fChain leD leD (fK (.str (Str.ofString "0"))) (fVar 9) (fK (.str (Str.ofString "9")))))) (fVar 9))) (fL (fLst fNil))) r = .ok (!(tl x).all digC) := by
    rw [x_fTest, x_fBin, fL_of lc, bnd_ok]
    show ((neD r (.lst _) (.lst [])).bnd _) = _
    rw [ne_nilL (fun d hd => by
      obtain ⟨c, hc, rfl⟩ := List.mem_map.mp hd
      exact dep_str 0 (ac_one (ha c (List.mem_filter.mp hc).1)).ok)]
    show R.ok _ = _
    congr 1
    rw [List.isEmpty_map]
    have : ∀ l : List Nat, (l.filter fun c => !digC c).isEmpty = l.all digC := by
      intro l
      induction l with
      | nil => rfl
      | cons c l ih =>
        rw [List.filter_cons, List.all_cons]
        cases digC c with
        | true => simpa using ih
        | false => rfl
    rw [this]
  show fIfS _ _ _ _ = _
  rw [← hr, x_fIfS, x_fOr, t1, bnd_ok]
  have num : isNum x = (!(tl x).isEmpty && (tl x).all digC) := rfl
  cases he : tl x with
  | nil =>
    have : canonN x = false := by unfold canonN; rw [num, he]; rfl
    rw [this]
    rfl
  | cons c l =>
    simp only [List.isEmpty_cons, Bool.false_eq_true, if_false]
    rw [x_fOr, t2, bnd_ok]
    have t3 : fTest (fBin eqD (fBin ixD (fVar 7) (fK (.int 0))) (fK (.str (Str.ofString "0")))) r = .ok (decide (c = 48)) := by
      have ix : fBin ixD (fVar 7) (fK (.int 0)) r = .ok (.str ⟨#[c]⟩) := by
        rw [x_fBin, v7, bnd_ok]
        show ixD r (.str x) (.int ((0 : Nat) : Int)) = _
        unfold ixD
        simp only [show decide (x.length ≤ sizeLine) = true from decide_eq_true (sz_le (by omega)), if_true, L2.atI_nat (show x.cps.toList[0]? = some c by rw [show x.cps.toList = tl x from rfl, he]; rfl)]
      rw [x_fTest, x_fBin, ix, bnd_ok]
      show ((eqD r (.str ⟨#[c]⟩) (.str (Str.ofString "0"))).bnd _) = _
      rw [eqD_str (ac_one (ha c (by rw [he]; simp))).ok (by decide +kernel)]
      show R.ok _ = _
      congr 1
      rw [show Str.ofString "0" = ⟨#[48]⟩ from by decide +kernel]
      by_cases hc : c = 48
      · subst hc; rfl
      · rw [decide_eq_false hc]
        refine beq_eq_false_iff_ne.mpr fun e => hc ?_
        have := congrArg tl e
        have h2 : [c] = [48] := this
        simpa using h2
    have cn : canonN x = ((tl x).all digC && !decide (c = 48)) := by
      unfold canonN
      rw [num, he]
      simp
    rw [cn, he]
    cases hd : (c :: l).all digC with
    | false => rfl
    | true =>
      simp only [Bool.not_true, Bool.false_eq_true, if_false, Bool.true_and]
      rw [t3]
      cases decide (c = 48) with
      | true => rfl
      | false =>
        show fNx r = _
        rw [hr]
        rfl
end PL
end
section
namespace PL.W60
open PySem PySem.Spec PyProof.Rows L2 PL.G TL
def nt : Str := Str.ofString "no text"
def rr (b : Bk) (s : Str) (x2 : Sl) (ts : List Tq) (last : Str) (x5 x6 x7 x8 : Sl) : Rho := [.im (bkD b), .im (.str s), x2, .ol (ts.map shrD), .im (.str last), x5, x6, x7, x8, .un, .un]
noncomputable abbrev pBody : Rho → R Fl := (fSeq (fAsg (.nm 5) (fL (fSplit (fVar 2) (fK (.str (Str.ofString " "))))))
    (fSeq (fAsg (.nm 6) (fL (fSplit (fBin ixD (fVar 5) (fNeg (fK (.int 1)))) (fK (.str (Str.ofString "/"))))))
    (fSeq (fIfS (fOr (fTest (fBin neD (fCallB lenD (fConsB (fVar 5) fNil)) (fK (.int 2)))) (fOr (fTest (fBin (inG true) (fBin ixD (fVar 5) (fK (.int 0))) (fCall 1 F_u_law_names (fCons (fVar 0) fNil)))) (fOr (fNot (fTest (fBin ltD (fVar 4) (fBin ixD (fVar 5) (fK (.int 0)))))) (fTest (fBin gtI (fCallB lenD (fConsB (fVar 6) fNil)) (fK (.int 2))))))) (fRet (fK (.str (Str.ofString "no text")))) fNx)
    (fSeq (fFor (.nm 7) (fIt false (fVar 6)) (nBody (.str (Str.ofString "no text"))))
    (fSeq (fAsg (.nm 8) (fTup (fCons (fCallB intTD (fConsB (fBin ixD (fVar 6) (fK (.int 0))) fNil)) (fCons (fIf (fTest (fBin eqD (fCallB lenD (fConsB (fVar 6) fNil)) (fK (.int 2)))) (fCallB intTD (fConsB (fBin ixD (fVar 6) (fK (.int 1))) fNil)) (fK (.int 1))) fNil))))
    (fSeq (fIfS (fOr (fTest (fBin neD (fCall 2 F_u_law_low (fCons (fBin ixD (fVar 8) (fK (.int 0))) (fCons (fBin ixD (fVar 8) (fK (.int 1))) fNil))) (fVar 8))) (fAnd (fTest (fBin eqD (fCallB lenD (fConsB (fVar 6) fNil)) (fK (.int 2)))) (fTest (fBin eqD (fBin ixD (fVar 8) (fK (.int 1))) (fK (.int 1)))))) (fRet (fK (.str (Str.ofString "no text")))) fNx)
    (fSeq (fAsg (.nm 4) (fBin ixD (fVar 5) (fK (.int 0))))
    (fApp 3 (fTup (fCons (fVar 4) (fCons (fVar 8) fNil)))))))))))
theorem app_go {i : Nat} {f : Rho → R D} {r r' : Rho} {ds : List D} {d : D} (h : r[i]? = some (.ol ds)) (hf : f r = .ok d) (im : imD d = .ok d) (hl : decide (ds.length < sizeLine) = true) (e : r.set i (.ol (ds ++ [d])) = r') : fApp i f r = .ok (.nx r') := by
  rw [x_fApp, h]
  simp only
  rw [hf, bnd_ok, im, bnd_ok, hl, ← e]
  rfl
section
variable {m : Nat} {b : Bk} {s p last : Str} {ts : List Tq} {x5 x6 x7 x8 : Sl}
theorem low_eq {n d : Nat} (hn : 0 < n) (hd : 0 < d) (hb : d < 2 ^ 1330) (r : Rho) : ∃ X, F_u_law_low [.int (n : Int), .int (d : Int)] = .ok X ∧ imD X = .ok X ∧ neD r X (.tup [.int (n : Int), .int (d : Int)]) = .ok (.bl (!decide (Nat.gcd n d = 1))) := by
  have e := F_low_ok (u := (n : Int)) (d := (d : Int)) (n := 1330) (by omega) (by simpa using hb) (by decide)
  refine ⟨_, e, rfl, ?_⟩
  have a := share_num (u := (n : Int)) (d := (d : Int)) (by omega)
  have c := share_den (u := (n : Int)) (d := (d : Int)) (by omega)
  have g : (n : Int).gcd (d : Int) = Nat.gcd n d := Int.gcd_natCast_natCast n d
  rw [g] at a c
  unfold fr
  rw [ne_ii, a, c]
  congr 3
  have gp : 0 < Nat.gcd n d := Nat.gcd_pos_of_pos_left _ hn
  by_cases h1 : Nat.gcd n d = 1
  · rw [decide_eq_true h1, h1]
    simp
  · rw [decide_eq_false h1]
    have : ((n : Int) / ((Nat.gcd n d : Nat) : Int) == (n : Int)) = false := by
      refine beq_eq_false_iff_ne.mpr fun e => ?_
      have e2 : ((n / Nat.gcd n d : Nat) : Int) = (n : Int) := by rw [Int.natCast_ediv]; exact e
      have e3 : n / Nat.gcd n d = n := by omega
      have : n / Nat.gcd n d < n := Nat.div_lt_self hn (by omega)
      omega
    rw [this]
    rfl
theorem pBody_ok (h : Bok m b) (ha : Ac p) (hl : p.length ≤ 300) (tl : ts.length ≤ 400) :
    (match lwk b p with
    | some t => if strLt last t.1 then ∃ y5 y6 y7 y8, pBody (rr b s (.im (.str p)) ts last x5 x6 x7 x8) = .ok (.nx (rr b s (.im (.str p)) (ts ++ [t]) t.1 y5 y6 y7 y8)) else pBody (rr b s (.im (.str p)) ts last x5 x6 x7 x8) = .ok (.rt (.str nt))
    | none => pBody (rr b s (.im (.str p)) ts last x5 x6 x7 x8) = .ok (.rt (.str nt))) := by
  obtain ⟨W, hW⟩ : ∃ W, Txt.split p sp = W := ⟨_, rfl⟩
  have sp1 : fSplit (fVar 2) (fK (.str (Str.ofString " "))) (rr b s (.im (.str p)) ts last x5 x6 x7 x8) = .ok (W.map .str) := by
    rw [← hW]
    exact fSplit_ok (b := sp) rfl rfl (by decide +kernel) (by omega)
  have wne : W ≠ [] := fun e => by
    have := split_pos p sp
    rw [hW, e] at this
    cases this
  have accW : ∀ q ∈ W, Ac q ∧ q.length ≤ 300 := fun q hq => by
    rw [← hW] at hq
    exact ⟨split_ac ha hq, Nat.le_trans (split_len hq) hl⟩
  have st1 : fAsg (.nm 5) (fL (fSplit (fVar 2) (fK (.str (Str.ofString " "))))) (rr b s (.im (.str p)) ts last x5 x6 x7 x8) = .ok (.nx (rr b s (.im (.str p)) ts last (.im (.lst (W.map .str))) x6 x7 x8)) := asg_to (fL_of sp1) rfl (by show 5 < 11; decide) rfl
  obtain ⟨w, hw⟩ : ∃ w, w = W.getLast wne := ⟨_, rfl⟩
  have wm : w ∈ W := by rw [hw]; exact List.getLast_mem wne
  obtain ⟨w1, w2⟩ := accW w wm
  have ixl : fBin ixD (fVar 5) (fNeg (fK (.int 1))) (rr b s (.im (.str p)) ts last (.im (.lst (W.map .str))) x6 x7 x8) = .ok (.str w) := by
    show ixD (rr b s (.im (.str p)) ts last (.im (.lst (W.map .str))) x6 x7 x8) (.lst (W.map .str)) (.int (-1)) = _
    rw [x_ixD_lst]
    have e : W.map D.str = (W.dropLast.map D.str) ++ [.str w] := by
      rw [hw]
      have := List.dropLast_concat_getLast wne
      conv => lhs; rw [← this]
      rw [List.map_append]
      rfl
    rw [e, L2.atI_last]
  obtain ⟨V, hV⟩ : ∃ V, Txt.split w sl = V := ⟨_, rfl⟩
  have sp2 : fSplit (fBin ixD (fVar 5) (fNeg (fK (.int 1)))) (fK (.str (Str.ofString "/"))) (rr b s (.im (.str p)) ts last (.im (.lst (W.map .str))) x6 x7 x8) = .ok (V.map .str) := by
    rw [← hV]
    exact fSplit_ok (b := sl) ixl rfl (by decide +kernel) (by omega)
  have st2 : fAsg (.nm 6) (fL (fSplit (fBin ixD (fVar 5) (fNeg (fK (.int 1)))) (fK (.str (Str.ofString "/"))))) (rr b s (.im (.str p)) ts last (.im (.lst (W.map .str))) x6 x7 x8) = .ok (.nx (rr b s (.im (.str p)) ts last (.im (.lst (W.map .str))) (.im (.lst (V.map .str))) x7 x8)) := asg_to (fL_of sp2) rfl (by show 6 < 11; decide) rfl
  have accV : ∀ q ∈ V, Ac q ∧ q.length ≤ 300 := fun q hq => by
    rw [← hV] at hq
    exact ⟨split_ac w1 hq, Nat.le_trans (split_len hq) w2⟩
  have vne : V ≠ [] := fun e => by
    have := split_pos w sl
    rw [hV, e] at this
    cases this
  obtain ⟨r, hr⟩ : ∃ r : Sl → Sl → Rho, r = fun x7 x8 => rr b s (.im (.str p)) ts last (.im (.lst (W.map .str))) (.im (.lst (V.map .str))) x7 x8 := ⟨_, rfl⟩
  have st2 : fAsg (.nm 6) (fL (fSplit (fBin ixD (fVar 5) (fNeg (fK (.int 1)))) (fK (.str (Str.ofString "/"))))) (rr b s (.im (.str p)) ts last (.im (.lst (W.map .str))) x6 x7 x8) = .ok (.nx (r x7 x8)) := by rw [hr]; exact st2
  have lenW : fTest (fBin neD (fCallB lenD (fConsB (fVar 5) fNil)) (fK (.int 2))) (r x7 x8) = .ok (!decide (W.length = 2)) := by
    rw [hr]
    show ((neD (rr b s (.im (.str p)) ts last (.im (.lst (W.map .str))) (.im (.lst (V.map .str))) x7 x8) (.int ((W.map D.str).length : Int)) (.int 2)).bnd _) = _
    rw [x_neD_int, List.length_map]
    show R.ok _ = _
    congr 2
    by_cases c : W.length = 2
    · rw [c]; rfl
    · rw [decide_eq_false c]
      refine beq_eq_false_iff_ne.mpr ?_
      omega
  have refuse : ∀ (c : Rho → R Bool) (q : Rho → R Fl), c (r x7 x8) = .ok true → (fSeq (fIfS c (fRet (fK (.str (Str.ofString "no text")))) fNx) q) (r x7 x8) = .ok (.rt (.str nt)) := fun c q e => by
    rw [x_fSeq, x_fIfS, e]
    rfl
  by_cases c2 : W.length = 2
  case neg =>
    have lw : lwk b p = none := by
      unfold lwk
      rw [hW]
      match W, c2 with
      | [], _ => rfl
      | [_], _ => rfl
      | [_, _], c => exact absurd rfl c
      | _ :: _ :: _ :: _, _ => rfl
    rw [lw]
    refine seq_go st1 (seq_go st2 (refuse _ _ ?_))
    rw [x_fOr, lenW, decide_eq_false c2]
    rfl
  case pos =>
    obtain ⟨a, w', rfl⟩ : ∃ a w', W = [a, w'] := by
      match W, c2 with
      | [a, w'], _ => exact ⟨a, w', rfl⟩
    have ew : w = w' := by rw [hw]; rfl
    subst ew
    have lk : lwk b p = if decide (a ∈ nms b) && (decide (V.length ≤ 2) && V.all canonN) then (match V with
        | [x] => some (a, (numV x : Int), 1)
        | [x, y] => if decide (Nat.gcd (numV x) (numV y) = 1) && !decide (numV y = 1) then some (a, (numV x : Int), (numV y : Int)) else none
        | _ => none) else none := by
      unfold lwk
      rw [hW]
      simp only
      first
      | (rw [hV]; rfl)
      | rw [hV]
    have v50 : ∀ x7 x8, fBin ixD (fVar 5) (fK (.int 0)) (r x7 x8) = .ok (.str a) := fun x7 x8 => by
      rw [hr]
      show ixD (rr b s (.im (.str p)) ts last (.im (.lst ([a, w].map .str))) (.im (.lst (V.map .str))) x7 x8) (.lst [.str a, .str w]) (.int 0) = _
      rw [x_ixD_lst, at_0]
    have vi : fTest (fBin (inG true) (fBin ixD (fVar 5) (fK (.int 0))) (fCall 1 F_u_law_names (fCons (fVar 0) fNil))) (r x7 x8) = .ok (!decide (a ∈ nms b)) := by
      have nm : fCall 1 F_u_law_names (fCons (fVar 0) fNil) (r x7 x8) = .ok (.lst ((nms b).map .str)) := call_1 (a := bkD b) (by rw [hr]; rfl) rfl (F_lawnames h)
      rw [x_fTest, x_fBin, v50, bnd_ok, nm, bnd_ok, in_strs]
      rfl
    have vl : fNot (fTest (fBin ltD (fVar 4) (fBin ixD (fVar 5) (fK (.int 0))))) (r x7 x8) = .ok (!strLt last a) := by
      rw [x_fNot, x_fTest, x_fBin, show fVar 4 (r x7 x8) = .ok (.str last) from by rw [hr]; rfl, bnd_ok, v50]
      rfl
    have vn : fTest (fBin gtI (fCallB lenD (fConsB (fVar 6) fNil)) (fK (.int 2))) (r x7 x8) = .ok (decide (2 < V.length)) := by
      rw [hr]
      show (R.ok (D.bl (decide ((2 : Int) < ((V.map D.str).length : Int))))).bnd boolOf = _
      rw [List.length_map]
      show R.ok _ = _
      congr 1
      by_cases c : 2 < V.length
      · rw [decide_eq_true c]; exact decide_eq_true (by omega)
      · rw [decide_eq_false c]; exact decide_eq_false (by omega)
    have tst : fOr (fTest (fBin neD (fCallB lenD (fConsB (fVar 5) fNil)) (fK (.int 2)))) (fOr (fTest (fBin (inG true) (fBin ixD (fVar 5) (fK (.int 0))) (fCall 1 F_u_law_names (fCons (fVar 0) fNil)))) (fOr (fNot (fTest (fBin ltD (fVar 4) (fBin ixD (fVar 5) (fK (.int 0)))))) (fTest (fBin gtI (fCallB lenD (fConsB (fVar 6) fNil)) (fK (.int 2)))))) (r x7 x8) = .ok (!decide (a ∈ nms b) || (!strLt last a || decide (2 < V.length))) := by
      rw [x_fOr, lenW, bnd_ok]
      simp only [List.length_cons, List.length_nil]
      show fOr _ _ _ = _
      rw [x_fOr, vi, bnd_ok]
      cases decide (a ∈ nms b) with
      | false => rfl
      | true =>
        simp only [Bool.not_true, Bool.false_eq_true, if_false, Bool.false_or]
        rw [x_fOr, vl, bnd_ok]
        cases strLt last a with
        | false => rfl
        | true =>
          simp only [Bool.not_true, Bool.false_eq_true, if_false, Bool.false_or]
          exact vn
    cases hc : (!decide (a ∈ nms b) || (!strLt last a || decide (2 < V.length))) with
    | true =>
      rw [hc] at tst
      have out : pBody (rr b s (.im (.str p)) ts last x5 x6 x7 x8) = .ok (.rt (.str nt)) := seq_go st1 (seq_go st2 (refuse _ _ tst))
      rw [out]
      cases hk : lwk b p with
      | none => rfl
      | some t =>
        simp only
        have ta : t.1 = a := by
          rw [lk] at hk
          split at hk
          · split at hk
            · cases hk; rfl
            · split at hk
              · cases hk; rfl
              · cases hk
            · cases hk
          · cases hk
        cases hs : strLt last t.1 with
        | false => simp
        | true =>
          exfalso
          rw [ta] at hs
          rw [lk] at hk
          split at hk
          · rename_i q
            simp only [Bool.and_eq_true, decide_eq_true_eq] at q
            rw [decide_eq_true q.1, hs] at hc
            simp only [Bool.not_true, Bool.false_or, decide_eq_true_eq] at hc
            omega
          · cases hk
    | false =>
      rw [hc] at tst
      simp only [Bool.or_eq_false_iff, Bool.not_eq_false', decide_eq_true_eq, decide_eq_false_iff_not] at hc
      obtain ⟨hm, hlt, hv2⟩ := hc
      have hm' : a ∈ nms b := hm
      have s3 := if_skip (s1 := fRet (fK (.str (Str.ofString "no text")))) tst
      have lp := forGo_check (t := .nm 7) (fb := nBody (.str nt)) D.str canonN (fun ρ => ∃ x7, ρ = r x7 x8) (.str nt) V (fun x hx ρ hρ => by
        obtain ⟨y7, rfl⟩ := hρ
        have nb := nBody_ok (a0 := .im (bkD b)) (a1 := .im (.str s)) (a2 := .im (.str p)) (a3 := .ol (ts.map shrD)) (a4 := .im (.str last)) (a5 := .im (.lst ([a, w].map .str))) (a6 := .im (.lst (V.map .str))) (a8 := x8) (a9 := .un) (a10 := .un) (q := nt) (accV x hx).1 (Nat.le_trans (accV x hx).2 (by decide))
        refine ⟨r (.im (.str x)) x8, by rw [hr]; rfl, ?_⟩
        rw [hr]
        cases hn : canonN x with
        | true =>
          rw [hn] at nb
          exact .inl ⟨rfl, _, nb, _, rfl⟩
        | false =>
          rw [hn] at nb
          exact .inr ⟨rfl, nb⟩) (r x7 x8) ⟨_, rfl⟩
      have it : fIt false (fVar 6) (r x7 x8) = .ok (V.map .str) := by rw [hr]; rfl
      rw [lk, decide_eq_true hm', decide_eq_true (by omega : V.length ≤ 2)]
      rcases lp with ⟨al, ρ, f1, y7, rfl⟩ | ⟨al, f1⟩
      · rw [al]
        have go : ∀ X, (fSeq (fAsg (.nm 8) (fTup (fCons (fCallB intTD (fConsB (fBin ixD (fVar 6) (fK (.int 0))) fNil)) (fCons (fIf (fTest (fBin eqD (fCallB lenD (fConsB (fVar 6) fNil)) (fK (.int 2)))) (fCallB intTD (fConsB (fBin ixD (fVar 6) (fK (.int 1))) fNil)) (fK (.int 1))) fNil))))
            (fSeq (fIfS (fOr (fTest (fBin neD (fCall 2 F_u_law_low (fCons (fBin ixD (fVar 8) (fK (.int 0))) (fCons (fBin ixD (fVar 8) (fK (.int 1))) fNil))) (fVar 8))) (fAnd (fTest (fBin eqD (fCallB lenD (fConsB (fVar 6) fNil)) (fK (.int 2)))) (fTest (fBin eqD (fBin ixD (fVar 8) (fK (.int 1))) (fK (.int 1)))))) (fRet (fK (.str (Str.ofString "no text")))) fNx)
            (fSeq (fAsg (.nm 4) (fBin ixD (fVar 5) (fK (.int 0))))
            (fApp 3 (fTup (fCons (fVar 4) (fCons (fVar 8) fNil))))))) (r y7 x8) = X → pBody (rr b s (.im (.str p)) ts last x5 x6 x7 x8) = X := fun X e => seq_go st1 (seq_go st2 (seq_go s3 (seq_go (for_go (ds := V.map .str) it f1) e)))
        have all : ∀ x ∈ V, canonN x = true := fun x hx => List.all_eq_true.mp al x hx
        have num : ∀ x ∈ V, isNum x = true ∧ 0 < numV x ∧ numV x < 2 ^ 1330 := fun x hx => by
          obtain ⟨q1, q2⟩ := canonN_iff.mp (all x hx)
          have q3 := numV_lt q1
          exact ⟨q1, (istr_back q1 q2).2, bits_of q3 (Nat.le_trans (accV x hx).2 (by decide))⟩
        have int : ∀ x ∈ V, ∀ ρ, intTD ρ [.str x] = .ok (.int (numV x)) := fun x hx ρ => intTD_ok (num x hx).1 (Nat.le_trans (accV x hx).2 (by decide))
        have r8 : ∀ X, (r y7 x8).set 8 (.im X) = r y7 (.im X) := fun X => by rw [hr]; rfl
        have l8 : 8 < (r y7 x8).length := by rw [hr]; show 8 < 11; decide
        have six : ∀ x8, (r y7 x8)[6]? = some (.im (.lst (V.map .str))) := fun x8 => by rw [hr]; rfl
        have sixv : ∀ x8, fVar 6 (r y7 x8) = .ok (.lst (V.map .str)) := fun x8 => by rw [hr]; rfl
        have last2 : ∀ X : Tq, shrD X = .tup [.str a, .tup [.int X.2.1, .int X.2.2]] → X.1 = a → (fSeq (fAsg (.nm 4) (fBin ixD (fVar 5) (fK (.int 0)))) (fApp 3 (fTup (fCons (fVar 4) (fCons (fVar 8) fNil))))) (r y7 (.im (.tup [.int X.2.1, .int X.2.2]))) = .ok (.nx (rr b s (.im (.str p)) (ts ++ [X]) X.1 (.im (.lst ([a, w].map .str))) (.im (.lst (V.map .str))) y7 (.im (.tup [.int X.2.1, .int X.2.2])))) := fun X e ea => by
          refine seq_go (r' := rr b s (.im (.str p)) ts a (.im (.lst ([a, w].map .str))) (.im (.lst (V.map .str))) y7 (.im (.tup [.int X.2.1, .int X.2.2]))) (asg_to (v50 _ _) rfl (by rw [hr]; show 4 < 11; decide) (by rw [hr]; rfl)) ?_
          refine app_go (ds := ts.map shrD) (d := shrD X) rfl (by rw [e]; rfl) rfl (decide_eq_true (sz_lt' (by rw [List.length_map]; omega))) ?_
          rw [ea]
          unfold rr
          rw [List.map_append]
          rfl
        match V, vne, num, int, six, sixv, go, hv2, hr with
        | [x], _, num, int, six, sixv, go, _, hr =>
          obtain ⟨n1, n2, n3⟩ := num x (by simp)
          obtain ⟨X, q1, q2, q3⟩ := low_eq (n := numV x) (d := 1) n2 (by decide) (by decide) (r y7 (.im (.tup [.int (numV x), .int 1])))
          have part : fTup (fCons (fCallB intTD (fConsB (fBin ixD (fVar 6) (fK (.int 0))) fNil)) (fCons (fIf (fTest (fBin eqD (fCallB lenD (fConsB (fVar 6) fNil)) (fK (.int 2)))) (fCallB intTD (fConsB (fBin ixD (fVar 6) (fK (.int 1))) fNil)) (fK (.int 1))) fNil)) (r y7 x8) = .ok (.tup [.int (numV x), .int 1]) := by
            simp [six, int x (by simp)]
          have tst : fOr (fTest (fBin neD (fCall 2 F_u_law_low (fCons (fBin ixD (fVar 8) (fK (.int 0))) (fCons (fBin ixD (fVar 8) (fK (.int 1))) fNil))) (fVar 8))) (fAnd (fTest (fBin eqD (fCallB lenD (fConsB (fVar 6) fNil)) (fK (.int 2)))) (fTest (fBin eqD (fBin ixD (fVar 8) (fK (.int 1))) (fK (.int 1))))) (r y7 (.im (.tup [.int (numV x), .int 1]))) = .ok false := by
            have v8 : fVar 8 (r y7 (.im (.tup [.int (numV x), .int 1]))) = .ok (.tup [.int (numV x), .int 1]) := by rw [hr]; rfl
            refine or_no ?_ ?_
            · rw [x_fTest, x_fBin, call_2 (F := F_u_law_low) (a := .int (numV x)) (b := .int 1) (by rw [x_fBin, v8]; rfl) rfl (by rw [x_fBin, v8]; rfl) rfl q1, bnd_ok, v8, bnd_ok]
              show ((neD _ X (.tup [.int (numV x), .int ((1 : Nat) : Int)])).bnd _) = _
              rw [q3, decide_eq_true (Nat.gcd_one_right _)]
              rfl
            · rw [x_fAnd]
              simp [six]
          have e := last2 (a, (numV x : Int), 1) rfl rfl
          rw [if_pos (show (true && (true && true)) = true from rfl)]
          simp only
          rw [if_pos hlt]
          exact ⟨_, _, _, _, go _ (seq_go (asg_to part rfl l8 (r8 _)) (seq_go (if_skip tst) e))⟩
        | [x, y], _, num, int, six, sixv, go, _, hr =>
          obtain ⟨n1, n2, n3⟩ := num x (by simp)
          obtain ⟨m1, m2, m3⟩ := num y (by simp)
          obtain ⟨X, q1, q2, q3⟩ := low_eq (n := numV x) (d := numV y) n2 m2 m3 (r y7 (.im (.tup [.int (numV x), .int (numV y)])))
          have part : fTup (fCons (fCallB intTD (fConsB (fBin ixD (fVar 6) (fK (.int 0))) fNil)) (fCons (fIf (fTest (fBin eqD (fCallB lenD (fConsB (fVar 6) fNil)) (fK (.int 2)))) (fCallB intTD (fConsB (fBin ixD (fVar 6) (fK (.int 1))) fNil)) (fK (.int 1))) fNil)) (r y7 x8) = .ok (.tup [.int (numV x), .int (numV y)]) := by
            simp [six, int x (by simp), int y (by simp)]
          have v8 : fVar 8 (r y7 (.im (.tup [.int (numV x), .int (numV y)]))) = .ok (.tup [.int (numV x), .int (numV y)]) := by rw [hr]; rfl
          have tst : fOr (fTest (fBin neD (fCall 2 F_u_law_low (fCons (fBin ixD (fVar 8) (fK (.int 0))) (fCons (fBin ixD (fVar 8) (fK (.int 1))) fNil))) (fVar 8))) (fAnd (fTest (fBin eqD (fCallB lenD (fConsB (fVar 6) fNil)) (fK (.int 2)))) (fTest (fBin eqD (fBin ixD (fVar 8) (fK (.int 1))) (fK (.int 1))))) (r y7 (.im (.tup [.int (numV x), .int (numV y)]))) = .ok (!(decide (Nat.gcd (numV x) (numV y) = 1) && !decide (numV y = 1))) := by
            rw [x_fOr, x_fTest, x_fBin, call_2 (F := F_u_law_low) (a := .int (numV x)) (b := .int (numV y)) (by rw [x_fBin, v8]; rfl) rfl (by rw [x_fBin, v8]; rfl) rfl q1, bnd_ok, v8, bnd_ok, q3, bnd_ok, x_boolOf, bnd_ok]
            cases decide (Nat.gcd (numV x) (numV y) = 1) with
            | false => rfl
            | true =>
              simp only [Bool.not_true, Bool.false_eq_true, if_false, Bool.true_and, Bool.not_not]
              rw [x_fAnd]
              simp only [x_fTest, x_fBin, x_fCallB, x_fConsB, sixv, bnd_ok, x_fNil, v8]
              show (((eqD _ (.int 2) (.int 2)).bnd _).bnd _) = _
              rw [x_eqD_int, show ((2 : Int) == 2) = true from rfl, bnd_ok, x_boolOf, bnd_ok, if_pos rfl]
              show (((ixD _ (.tup [.int (numV x), .int (numV y)]) (.int 1)).bnd fun z => eqD _ z (.int 1)).bnd _) = _
              rw [x_ixD_tup, at_1]
              simp only
              rw [bnd_ok, x_eqD_int]
              show R.ok _ = _
              congr 1
              by_cases c : numV y = 1
              · rw [c]; rfl
              · rw [decide_eq_false c]
                exact beq_eq_false_iff_ne.mpr (by omega)
          rw [if_pos (show (true && (true && true)) = true from rfl)]
          simp only
          cases hg : (decide (Nat.gcd (numV x) (numV y) = 1) && !decide (numV y = 1)) with
          | true =>
            rw [hg] at tst
            have e := last2 (a, (numV x : Int), (numV y : Int)) rfl rfl
            simp only [if_true]
            rw [if_pos hlt]
            exact ⟨_, _, _, _, go _ (seq_go (asg_to part rfl l8 (r8 _)) (seq_go (if_skip tst) e))⟩
          | false =>
            rw [hg] at tst
            simp only [Bool.false_eq_true, if_false]
            refine go _ (seq_go (asg_to part rfl l8 (r8 _)) ?_)
            rw [x_fSeq, x_fIfS, tst]
            rfl
        | _ :: _ :: _ :: _, _, _, _, _, _, _, h, _ => exact absurd (by simp) h
      · rw [al]
        exact seq_go st1 (seq_go st2 (seq_go s3 (seq_rt0 (for_go (ds := V.map .str) it f1))))
end
section
variable {m : Nat} {b : Bk} {s last : Str}
theorem read_loop (h : Bok m b) : ∀ (ps : List Str) (ts : List Tq) (last : Str) (x2 x5 x6 x7 x8 : Sl), (∀ p ∈ ps, Ac p ∧ p.length ≤ 300) → ts.length + ps.length ≤ 400 →
    (match lwGo b last ps with
    | some us => ∃ y2 y5 y6 y7 y8 last', forGo (.nm 2) pBody (ps.map .str) (rr b s x2 ts last x5 x6 x7 x8) = .ok (.nx (rr b s y2 (ts ++ us) last' y5 y6 y7 y8))
    | none => forGo (.nm 2) pBody (ps.map .str) (rr b s x2 ts last x5 x6 x7 x8) = .ok (.rt (.str nt)))
  | [], ts, last, x2, x5, x6, x7, x8, _, _ => ⟨x2, x5, x6, x7, x8, last, by rw [List.append_nil]; rfl⟩
  | p :: ps, ts, last, x2, x5, x6, x7, x8, hp, hl => by
    obtain ⟨p1, p2⟩ := hp p (by simp)
    have hl' : ts.length + (ps.length + 1) ≤ 400 := hl
    have one := pBody_ok (s := s) (last := last) (ts := ts) (x5 := x5) (x6 := x6) (x7 := x7) (x8 := x8) h p1 p2 (by omega)
    have unf : forGo (.nm 2) pBody ((p :: ps).map .str) (rr b s x2 ts last x5 x6 x7 x8) = (pBody (rr b s (.im (.str p)) ts last x5 x6 x7 x8)).bnd fun x => (match x with
        | .nx r' => forGo (.nm 2) pBody (ps.map .str) r'
        | .ct r' => forGo (.nm 2) pBody (ps.map .str) r'
        | .bk r' => .ok (.nx r')
        | .rt d => .ok (.rt d)
        | .rm d os => .ok (.rm d os)) := rfl
    rw [unf, lwGo]
    cases hk : lwk b p with
    | none =>
      rw [hk] at one
      simp only at one ⊢
      rw [one]
      rfl
    | some t =>
      rw [hk] at one
      simp only at one ⊢
      cases hs : strLt last t.1 with
      | false =>
        rw [hs] at one
        simp only [Bool.false_eq_true, if_false] at one ⊢
        rw [one]
        rfl
      | true =>
        rw [hs] at one
        simp only [if_true] at one ⊢
        obtain ⟨y5, y6, y7, y8, e⟩ := one
        have ih := read_loop h ps (ts ++ [t]) t.1 (.im (.str p)) y5 y6 y7 y8 (fun q hq => hp q (List.mem_cons_of_mem _ hq)) (by rw [List.length_append]; show ts.length + 1 + ps.length ≤ 400; omega)
        rw [e]
        simp only [bnd_ok]
        cases hg : lwGo b t.1 ps with
        | none =>
          rw [hg] at ih
          exact ih
        | some us =>
          rw [hg] at ih
          simp only [Option.map_some]
          obtain ⟨z2, z5, z6, z7, z8, l2, e2⟩ := ih
          rw [List.append_assoc] at e2
          exact ⟨z2, z5, z6, z7, z8, l2, e2⟩
theorem F_lawread (h : Bok m b) (ha : Ac s) (hl : s.length ≤ 300) : F_u_law_read [bkD b, .str s] = .ok (match readV b s with
    | some ts => .lst (ts.map shrD)
    | none => .str nt) := by
  have s2 : fL (fSplit (fVar 1) (fK (.str (Str.ofString " + ")))) (rr b s .un [] (Str.ofString "") .un .un .un .un) = .ok (.lst ((Txt.split s pl).map .str)) := fL_of (fSplit_ok (b := pl) rfl rfl (by decide +kernel) (by omega))
  have lp := read_loop (s := s) h (Txt.split s pl) [] (Str.ofString "") .un .un .un .un .un (fun p hp => ⟨split_ac ha hp, Nat.le_trans (split_len hp) hl⟩) (by
    have := split_le' s pl
    show 0 + _ ≤ 400
    omega)
  refine run_rt (r0 := [.im (bkD b), .im (.str s), .un, .un, .un, .un, .un, .un, .un, .un, .un]) rfl ?_
  refine seq_go (r' := rr b s .un [] (Str.ofString "") .un .un .un .un) rfl ?_
  have it : fIt false (fL (fSplit (fVar 1) (fK (.str (Str.ofString " + "))))) (rr b s .un [] (Str.ofString "") .un .un .un .un) = .ok ((Txt.split s pl).map .str) := by rw [x_fIt, s2]; rfl
  unfold readV
  cases hg : lwGo b (Str.ofString "") (Txt.split s pl) with
  | none =>
    rw [hg] at lp
    exact seq_rt0 (for_go it lp)
  | some ts =>
    rw [hg] at lp
    simp only [List.nil_append] at lp
    obtain ⟨y2, y5, y6, y7, y8, l2, e⟩ := lp
    refine seq_go (for_go it e) ?_
    obtain ⟨hm, hu⟩ := lwGo_iff.mp hg
    have facts : ∀ t ∈ ts, okPr b (shrD t) = true ∧ t.2.1.natAbs < 2 ^ 1330 ∧ t.2.2.natAbs < 2 ^ 1330 := fun t ht => by
      obtain ⟨p, hp, q⟩ := mapM_mem hm ht
      obtain ⟨q1, q2, _⟩ := lwk_iff.mp q
      obtain ⟨_, _, b1, b2⟩ := shr_len q1
      have := split_len hp
      exact ⟨q2, bits_of b1 (by omega), bits_of b2 (by omega)⟩
    have l6 : ts.length ≤ 6 := by
      have e1 := up_first h (xs := ts.map (·.1)) (fun x hx => by
        obtain ⟨t, ht, rfl⟩ := List.mem_map.mp hx
        exact (shrD_pr (facts t ht).1).2.1)
      rw [e1] at hu
      have := up_len6 h hu (fun x hx => by
        obtain ⟨t, ht, rfl⟩ := List.mem_map.mp hx
        exact (shrD_pr (facts t ht).1).2.1)
      rw [List.length_map] at this
      exact this
    have kp := kv_pr (fun t ht => (facts t ht).1)
    have sums : F_u_law_sum [.lst ((ts.map qT).map fr)] = .ok (fr (sumR (ts.map qT))) := F_lawsum (k := 1330) (.inl rfl) (fun q hq => by
      obtain ⟨t, ht, rfl⟩ := List.mem_map.mp hq
      obtain ⟨f1, f2, f3⟩ := facts t ht
      obtain ⟨_, _, _, q4, q5⟩ := shrD_pr f1
      exact ⟨by rw [← q4]; exact f2, by rw [q5] at f3; simpa using f3⟩) (by
      rw [List.length_map]
      have : (1330 + 1) * ts.length ≤ 1331 * 6 := Nat.mul_le_mul_left _ l6
      omega)
    obtain ⟨r, hr⟩ : ∃ r : Rho, r = [.im (bkD b), .im (.str s), y2, .im (.lst (ts.map shrD)), .im (.str l2), y5, y6, y7, y8, .un, .un] := ⟨_, rfl⟩
    have lc : fLc [10, 8] (.tp [(.nm 10), (.nm 8)]) (fIt true (fVar 3)) (fun _ => .ok true) (fVar 8) r = .ok ((ts.map qT).map fr) := by
      refine fLc_ok (X := (kvT ts).map pr) (by rw [hr, ← kp]; rfl) (by rw [List.length_map]; unfold kvT; rw [List.length_map]; omega) ?_
      have e2 : (ts.map qT).map fr = (kvT ts).map (fun p => fr p.2) := by
        unfold kvT
        rw [List.map_map, List.map_map]
        rfl
      rw [e2]
      exact lcGo_all (t := .tp [(.nm 10), (.nm 8)]) pr (fun p => fr p.2) (kvT ts) fun p _ => ⟨((wipeR r [10, 8]).set 10 (.im (.str p.1))).set 8 (.im (fr p.2)), by rw [hr]; rfl, by rw [hr]; rfl, rfl⟩
    show fFrz 3 _ _ = _
    rw [x_fFrz]
    show (fRet _ ([.im (bkD b), .im (.str s), y2, .im (.lst (ts.map shrD)), .im (.str l2), y5, y6, y7, y8, .un, .un])) = _
    rw [← hr]
    have tst : fTest (fBin eqD (fCall 1 F_u_law_sum (fCons (fL (fLc [10, 8] (.tp [(.nm 10), (.nm 8)]) (fIt true (fVar 3)) (fun _ => .ok true) (fVar 8))) fNil)) (fTup (fCons (fK (.int 1)) (fCons (fK (.int 1)) fNil)))) r = .ok (decide (sumR (ts.map qT) = 1)) := by
      rw [x_fTest, x_fBin, call_1 (fL_of lc) rfl sums, bnd_ok]
      show ((eqD r (fr _) (fr 1)).bnd _) = _
      rw [eqD_fr]
      rfl
    rw [x_fRet, x_fIf, tst, bnd_ok]
    simp only
    cases decide (sumR (ts.map qT) = 1) with
    | true =>
      simp only [if_true]
      rw [hr]
      rfl
    | false => rfl
def sw (ps : Kv) (made : Str) (x2 x3 : Sl) : Rho := [.im (.lst (ps.map pr)), .im (.str made), x2, x3]
def stepW (made : Str) (p : Str × Rat) : Str := if (tl made).isEmpty then pcx p else made ++ pl ++ pcx p
theorem join_snoc : ∀ (X : List Str) (Y Z : Str), Str.join pl (X ++ [Y] ++ [Z]) = Str.join pl (X ++ [Y]) ++ pl ++ Z := by
  intro X
  induction X with
  | nil => intro Y Z; rfl
  | cons x X ih2 =>
    intro Y Z
    have e1 : ∃ u v, X ++ [Y] = u :: v := by cases X <;> exact ⟨_, _, rfl⟩
    obtain ⟨u, v, e1⟩ := e1
    have := ih2 Y Z
    rw [e1] at this
    show Str.join pl (x :: (X ++ [Y] ++ [Z])) = Str.join pl (x :: (X ++ [Y])) ++ pl ++ Z
    rw [e1]
    show x ++ pl ++ Str.join pl (u :: v ++ [Z]) = (x ++ pl ++ Str.join pl (u :: v)) ++ pl ++ Z
    rw [this]
    exact ext_tl (by simp only [tl_append, List.append_assoc])
theorem fold_join (ps : Kv) (p : Str × Rat) : ps.foldl stepW (pcx p) = Str.join pl ((p :: ps).map pcx) := by
  have key : ∀ (ps : Kv) (X : List Str) (Y : Str), tl (Str.join pl (X ++ [Y])) ≠ [] → ps.foldl stepW (Str.join pl (X ++ [Y])) = Str.join pl ((X ++ [Y]) ++ ps.map pcx) := by
    intro ps
    induction ps with
    | nil => intro X Y _; rw [List.map_nil, List.append_nil]; rfl
    | cons q ps ih =>
      intro X Y hne
      have st : stepW (Str.join pl (X ++ [Y])) q = Str.join pl ((X ++ [Y]) ++ [pcx q]) := by
        unfold stepW
        rw [if_neg (by rw [List.isEmpty_iff]; exact hne), join_snoc]
      rw [List.foldl_cons, st, ih (X ++ [Y]) (pcx q) (by
        rw [join_snoc, tl_append, tl_append, tl_pl]
        simp), List.append_assoc]
      rfl
  have ne : tl (Str.join pl ([] ++ [pcx p])) ≠ [] := by
    show tl (pcx p) ≠ []
    unfold pcx
    rw [tl_append, tl_append, tl_sp]
    simp
  exact key ps [] (pcx p) ne
noncomputable abbrev wBody : Rho → R Fl := (fSeq (fAsg (.nm 1) (fBin addD (fBin addD (fBin addD (fBin addD (fVar 1) (fIf (fTest (fBin neD (fVar 1) (fK (.str (Str.ofString ""))))) (fK (.str (Str.ofString " + "))) (fK (.str (Str.ofString ""))))) (fVar 2)) (fK (.str (Str.ofString " ")))) (fCallB strD (fConsB (fBin ixD (fVar 3) (fK (.int 0))) fNil))))
    (fAsg (.nm 1) (fBin addD (fVar 1) (fIf (fTest (fBin gtI (fBin ixD (fVar 3) (fK (.int 1))) (fK (.int 1)))) (fBin addD (fK (.str (Str.ofString "/"))) (fCallB strD (fConsB (fBin ixD (fVar 3) (fK (.int 1))) fNil))) (fK (.str (Str.ofString "")))))))
theorem wBody_ok {ps : Kv} {made : Str} {p : Str × Rat} (hw : Wr p) (ha : Ac made) (hm : made.length ≤ 36900) : wBody (sw ps made (.im (.str p.1)) (.im (fr p.2))) = .ok (.nx (sw ps (stepW made p) (.im (.str p.1)) (.im (fr p.2)))) := by
  obtain ⟨w1, w2, w3⟩ := hw
  have d2 : ((p.2.den : Nat) : Int).natAbs < 2 ^ 1900 := by simpa using w3.2
  have l1 := istr_len6 w2 w3.1
  have l2 := istr_len6 (i := (p.2.den : Int)) (by omega) d2
  obtain ⟨r, hr⟩ : ∃ r : Rho, r = sw ps made (.im (.str p.1)) (.im (fr p.2)) := ⟨_, rfl⟩
  obtain ⟨sep, hsep⟩ : ∃ sep : Str, sep = if (tl made).isEmpty then Str.ofString "" else pl := ⟨_, rfl⟩
  have lsep : sep.length ≤ 3 := by
    rw [hsep]
    split
    · decide +kernel
    · rw [pl_len]; decide
  have v1 : fVar 1 r = .ok (.str made) := by rw [hr]; rfl
  have v2 : fVar 2 r = .ok (.str p.1) := by rw [hr]; rfl
  have v30 : fBin ixD (fVar 3) (fK (.int 0)) r = .ok (.int p.2.num) := by rw [hr]; exact x_ixD_fr0 (sw ps made (.im (.str p.1)) (.im (fr p.2))) p.2
  have e1 : fIf (fTest (fBin neD (fVar 1) (fK (.str (Str.ofString ""))))) (fK (.str (Str.ofString " + "))) (fK (.str (Str.ofString ""))) r = .ok (.str sep) := by
    have ne : neD r (.str made) (.str (Str.ofString "")) = .ok (.bl (!(tl made).isEmpty)) := by
      rw [neD_str ha.ok (by decide +kernel)]
      have q := eq_empty (r := r) ha
      rw [eqD_str ha.ok (by decide +kernel)] at q
      injection q with q
      injection q with q
      rw [q]
    rw [x_fIf, x_fTest, x_fBin, v1]
    show (((neD r (.str made) (.str (Str.ofString ""))).bnd _).bnd _) = _
    rw [ne, hsep]
    cases (tl made).isEmpty <;> rfl
  have a1 : fBin addD (fVar 1) (fIf (fTest (fBin neD (fVar 1) (fK (.str (Str.ofString ""))))) (fK (.str (Str.ofString " + "))) (fK (.str (Str.ofString "")))) r = .ok (.str (made ++ sep)) := by
    rw [x_fBin, v1, bnd_ok, e1, bnd_ok]
    exact addD_str (by omega)
  have a2 : fBin addD (fBin addD (fVar 1) (fIf (fTest (fBin neD (fVar 1) (fK (.str (Str.ofString ""))))) (fK (.str (Str.ofString " + "))) (fK (.str (Str.ofString ""))))) (fVar 2) r = .ok (.str (made ++ sep ++ p.1)) := by
    rw [x_fBin, a1, bnd_ok, v2, bnd_ok]
    exact addD_str (by rw [len_app]; omega)
  have a3 : fBin addD (fBin addD (fBin addD (fVar 1) (fIf (fTest (fBin neD (fVar 1) (fK (.str (Str.ofString ""))))) (fK (.str (Str.ofString " + "))) (fK (.str (Str.ofString ""))))) (fVar 2)) (fK (.str (Str.ofString " "))) r = .ok (.str (made ++ sep ++ p.1 ++ sp)) := by
    rw [x_fBin, a2, bnd_ok]
    exact addD_str (r := r) (b := sp) (by rw [len_app, len_app, sp_len]; omega)
  have a4 : fBin addD (fBin addD (fBin addD (fBin addD (fVar 1) (fIf (fTest (fBin neD (fVar 1) (fK (.str (Str.ofString ""))))) (fK (.str (Str.ofString " + "))) (fK (.str (Str.ofString ""))))) (fVar 2)) (fK (.str (Str.ofString " ")))) (fCallB strD (fConsB (fBin ixD (fVar 3) (fK (.int 0))) fNil)) r = .ok (.str (made ++ sep ++ p.1 ++ sp ++ istr p.2.num)) := by
    rw [x_fBin, a3, bnd_ok, x_fCallB, x_fConsB, v30, bnd_ok, x_fNil, bnd_ok, bnd_ok, strD_ok w3.1, bnd_ok]
    exact addD_str (by rw [len_app, len_app, len_app, sp_len]; omega)
  obtain ⟨M, hM⟩ : ∃ M, M = made ++ sep ++ p.1 ++ sp ++ istr p.2.num := ⟨_, rfl⟩
  have lM : M.length ≤ made.length + 1300 := by rw [hM, len_app, len_app, len_app, len_app, sp_len]; omega
  rw [← hM] at a4
  rw [← hr]
  refine seq_go (r' := sw ps M (.im (.str p.1)) (.im (fr p.2))) (asg_to a4 rfl (by rw [hr]; show 1 < 4; decide) (by rw [hr]; rfl)) ?_
  have fin : M ++ (if p.2.den = 1 then Str.ofString "" else sl ++ istr p.2.den) = stepW made p := by
    rw [hM, hsep]
    unfold stepW pcx ftx
    have z : tl (Str.ofString "") = [] := by decide +kernel
    by_cases c1 : (tl made).isEmpty = true
    · have c1' := List.isEmpty_iff.mp c1
      rw [if_pos c1, if_pos c1]
      by_cases c2 : p.2.den = 1
      · rw [if_pos c2, if_pos c2]
        exact ext_tl (by simp only [tl_append, z, c1', List.nil_append, List.append_nil])
      · rw [if_neg c2, if_neg c2]
        exact ext_tl (by simp only [tl_append, z, c1', List.nil_append, List.append_assoc])
    · rw [if_neg c1, if_neg c1]
      by_cases c2 : p.2.den = 1
      · rw [if_pos c2, if_pos c2]
        exact ext_tl (by simp only [tl_append, z, List.append_nil, List.append_assoc])
      · rw [if_neg c2, if_neg c2]
        exact ext_tl (by simp only [tl_append, List.append_assoc])
  have v31 : fBin ixD (fVar 3) (fK (.int 1)) (sw ps M (.im (.str p.1)) (.im (fr p.2))) = .ok (.int p.2.den) := x_ixD_fr1 (sw ps M (.im (.str p.1)) (.im (fr p.2))) p.2
  have tail : fIf (fTest (fBin gtI (fBin ixD (fVar 3) (fK (.int 1))) (fK (.int 1)))) (fBin addD (fK (.str (Str.ofString "/"))) (fCallB strD (fConsB (fBin ixD (fVar 3) (fK (.int 1))) fNil))) (fK (.str (Str.ofString ""))) (sw ps M (.im (.str p.1)) (.im (fr p.2))) = .ok (.str (if p.2.den = 1 then Str.ofString "" else sl ++ istr p.2.den)) := by
    rw [x_fIf, x_fTest, x_fBin, v31]
    show ((R.ok (decide ((1 : Int) < (p.2.den : Int)))).bnd _) = _
    have dp := p.2.den_pos
    by_cases c : p.2.den = 1
    · rw [c]; rfl
    · rw [decide_eq_true (by omega : (1 : Int) < (p.2.den : Int)), if_neg c, bnd_ok, if_pos rfl, x_fBin, x_fCallB, x_fConsB, v31, bnd_ok, x_fNil, bnd_ok]
      show ((strD (sw ps M (.im (.str p.1)) (.im (fr p.2))) [.int (p.2.den : Int)]).bnd _) = _
      rw [strD_ok d2, bnd_ok]
      exact addD_str (r := sw ps M (.im (.str p.1)) (.im (fr p.2))) (a := sl) (by rw [sl_len]; omega)
  refine asg_to (r := sw ps M (.im (.str p.1)) (.im (fr p.2))) (d := .str (stepW made p)) ?_ rfl (by show 1 < 4; decide) rfl
  rw [x_fBin, show fVar 1 (sw ps M (.im (.str p.1)) (.im (fr p.2))) = .ok (.str M) from rfl, bnd_ok, tail, bnd_ok, ← fin]
  refine addD_str (r := sw ps M (.im (.str p.1)) (.im (fr p.2))) ?_
  have : (if p.2.den = 1 then Str.ofString "" else sl ++ istr p.2.den).length ≤ 700 := by
    split
    · have : (Str.ofString "").length = 0 := by decide +kernel
      omega
    · rw [len_app, sl_len]; omega
  omega
theorem F_lawwritten {ps : Kv} (hne : ps ≠ []) (h : ∀ p ∈ ps, Wr p ∧ Ac p.1) (hl : ps.length ≤ 20) : F_u_law_written [.lst (ps.map pr)] = .ok (.str (txt ps)) := by
  have pc : ∀ p ∈ ps, (pcx p).length ≤ 1842 ∧ Ac (pcx p) := fun p hp => by
    obtain ⟨⟨w1, w2, w3⟩, w4⟩ := h p hp
    have fl := ftx_len w2 w3
    constructor
    · unfold pcx
      rw [len_app, len_app, sp_len]
      omega
    · have e : txt [p] = pcx p := rfl
      rw [← e]
      exact txt_ac fun q hq => by rw [List.mem_singleton.mp hq]; exact ⟨w4, w2⟩
  have e0 : (Str.ofString "").length = 0 := by decide +kernel
  have fo := forGo_fold (t := .tp [(.nm 2), (.nm 3)]) (fb := wBody) pr (fun s : Str × Sl × Sl => sw ps s.1 s.2.1 s.2.2) (fun s p => (stepW s.1 p, .im (.str p.1), .im (fr p.2)))
    (fun xs s => (∀ p ∈ xs, p ∈ ps) ∧ Ac s.1 ∧ s.1.length + 1845 * xs.length ≤ 36900) ps (Str.ofString "", .un, .un) ⟨fun _ hp => hp, ac_dec (by decide +kernel), by
      show (Str.ofString "").length + _ ≤ _
      rw [e0]
      omega⟩ (fun p xs st hP => by
      obtain ⟨made, x2, x3⟩ := st
      obtain ⟨hm, ha, hlen⟩ := hP
      have ha : Ac made := ha
      have hlen : made.length + 1845 * (xs.length + 1) ≤ 36900 := hlen
      have hp := hm p (by simp)
      obtain ⟨hw, w4⟩ := h p hp
      obtain ⟨pl1, pa1⟩ := pc p hp
      have lenS : (stepW made p).length ≤ made.length + 1845 := by
        unfold stepW
        split
        · omega
        · rw [len_app, len_app, pl_len]; omega
      refine ⟨⟨fun q hq => hm q (List.mem_cons_of_mem _ hq), ?_, ?_⟩, sw ps made (.im (.str p.1)) (.im (fr p.2)), rfl, .inl (wBody_ok hw ha (by omega))⟩
      · show Ac (stepW made p)
        unfold stepW
        split
        · exact pa1
        · exact (ha.app (ac_dec (by decide +kernel))).app pa1
      · show (stepW made p).length + 1845 * xs.length ≤ 36900
        omega)
  refine run_rt (r0 := [.im (.lst (ps.map pr)), .un, .un, .un]) rfl ?_
  refine seq_go (r' := sw ps (Str.ofString "") .un .un) rfl ?_
  refine seq_go (for_go (ds := ps.map pr) rfl fo) ?_
  refine ret_of ?_ rfl
  have e : ∀ (xs : Kv) (s : Str × Sl × Sl), (xs.foldl (fun s p => ((stepW s.1 p, .im (.str p.1), .im (fr p.2)) : Str × Sl × Sl)) s).1 = xs.foldl stepW s.1 := by
    intro xs
    induction xs with
    | nil => intro s; rfl
    | cons x xs ih => intro s; rw [List.foldl_cons, List.foldl_cons, ih]
  show R.ok (D.str (ps.foldl (fun s p => ((stepW s.1 p, .im (.str p.1), .im (fr p.2)) : Str × Sl × Sl)) (Str.ofString "", .un, .un)).1) = _
  rw [e]
  congr 2
  cases ps with
  | nil => exact absurd rfl hne
  | cons p ps =>
    rw [List.foldl_cons]
    have : stepW (Str.ofString "") p = pcx p := by
      unfold stepW
      rw [if_pos (by decide +kernel)]
    show ps.foldl stepW (stepW (Str.ofString "") p) = _
    rw [this, fold_join]
    unfold txt
    rw [join_eq]
end
end PL.W60
end
section
namespace PL.W60
open PySem PySem.Spec PyProof.Rows L2 PL.G TL
theorem runF_err {s1 : Rho → R Fl} {n : Nat} {ds : List D} {r0 : Rho} {c : Str} (h0 : ds.map .im ++ List.replicate (n - ds.length) .un = r0) (h : s1 r0 = .err c) : runF s1 n ds = .err c := by
  rw [x_runF, h0, h]
theorem seq_err {s1 s2 : Rho → R Fl} {r : Rho} {c : Str} (h : s1 r = .err c) : fSeq s1 s2 r = .err c := by
  rw [x_fSeq, h] <;> rfl
theorem expr_err {f : Rho → R D} {r : Rho} {c : Str} (h : f r = .err c) : fExpr f r = .err c := by
  rw [x_fExpr, h] <;> rfl
theorem call_1e {F : List D → R D} {fa : Rho → R D} {r : Rho} {a : D} {e : Str} (h1 : fa r = .ok a) (i1 : imD a = .ok a) (h : F [a] = .err e) : fCall 1 F (fCons fa fNil) r = .err e := by
  rw [x_fCall, x_fCons, h1, bnd_ok, i1]; exact h
theorem call_2e {F : List D → R D} {fa fb : Rho → R D} {r : Rho} {a b : D} {e : Str} (h1 : fa r = .ok a) (i1 : imD a = .ok a) (h2 : fb r = .ok b) (i2 : imD b = .ok b) (h : F [a, b] = .err e) : fCall 2 F (fCons fa (fCons fb fNil)) r = .err e := by
  rw [x_fCall, x_fCons, h1, bnd_ok, i1, bnd_ok, x_fCons, h2, bnd_ok, i2, bnd_ok]; exact h
theorem lookbook_no {X : D} (hi : imD X = .ok X) (h : F_is_book [X] = .ok (.bl false)) : F_look_book [X] = .err (Str.ofString "NoBook") := by
  refine runF_err (r0 := [.im X]) rfl ?_
  unfold B_look_book
  rw [if_yes (by rw [x_fNot, x_fTest, call_1 (a := X) rfl hi h]; rfl)]
theorem look_sh_no {b : Bk} {A : D} (ia : imD A = .ok A) (h : F_are_shares_in [bkD b, A] = .ok (.bl false)) : F_look_shares [bkD b, A] = .err (Str.ofString "NoShares") := by
  refine runF_err (r0 := [.im (bkD b), .im A]) rfl ?_
  unfold B_look_shares
  rw [if_yes (by rw [x_fNot, x_fTest, call_2 (a := bkD b) (b := A) rfl rfl rfl ia h]; rfl)]
theorem w_text : F_u_law_word [.exc (Str.ofString "NoText")] = .ok (.str nt) := by kernel_rfl
theorem w_sh : F_u_law_word [.exc (Str.ofString "NoShares")] = .ok (.str (Str.ofString "no shares")) := by kernel_rfl
theorem w_book : F_u_law_word [.exc (Str.ofString "NoBook")] = .ok (.str (Str.ofString "no book")) := by kernel_rfl
section
variable {B A d : D} (ib : imD B = .ok B) (ia : imD A = .ok A)
include ib ia
theorem do0_ok (h : F_shares_text [B, A] = .ok d) (hd : imD d = .ok d) (ho : ∀ r, outD r d = .ok d) : F_u_law_do [.int 0, B, A] = .ok d := by
  simp only [F_u_law_do, x_runF, B_u_law_do]
  simp [fTry, ib, ia, h, hd, ho, isD, isNon]
theorem do1_ok (h : F_read_shares [B, A] = .ok d) (hd : imD d = .ok d) (ho : ∀ r, outD r d = .ok d) : F_u_law_do [.int 1, B, A] = .ok d := by
  simp only [F_u_law_do, x_runF, B_u_law_do]
  simp [fTry, ib, ia, h, hd, ho, isD, isNon]
theorem do0_err {c : Str} {w : D} (h : F_shares_text [B, A] = .err c) (hc : c ∈ ecs) (hw : F_u_law_word [.exc c] = .ok w) (ho : ∀ r, outD r w = .ok w) : F_u_law_do [.int 0, B, A] = .ok w := by
  have ie : imD (.exc c) = .ok (.exc c) := rfl
  simp only [F_u_law_do, x_runF, B_u_law_do]
  simp [fTry, ib, ia, h, hc, dropOwn, isD, isNon, ie, hw, ho]
theorem do1_err {c : Str} {w : D} (h : F_read_shares [B, A] = .err c) (hc : c ∈ ecs) (hw : F_u_law_word [.exc c] = .ok w) (ho : ∀ r, outD r w = .ok w) : F_u_law_do [.int 1, B, A] = .ok w := by
  have ie : imD (.exc c) = .ok (.exc c) := rfl
  simp only [F_u_law_do, x_runF, B_u_law_do]
  simp [fTry, ib, ia, h, hc, dropOwn, isD, isNon, ie, hw, ho]
end
theorem textE : Str.ofString "NoText" ∈ ecs := by decide +kernel
theorem shE : Str.ofString "NoShares" ∈ ecs := by decide +kernel
theorem bookE : Str.ofString "NoBook" ∈ ecs := by decide +kernel
section
variable {m : Nat} {b : Bk} {s : Str}
noncomputable def ansD (b : Bk) (s : Str) : D := match readV b s with
  | some ts => .lst (ts.map shrD)
  | none => .str nt
theorem do1_text (h : Bok m b) (ha : Ac s) (hl : s.length ≤ 300) : F_u_law_do [.int 1, bkD b, .str s] = .ok (ansD b s) := by
  have e := read_same h ha hl
  unfold ansD
  cases hr : readV b s with
  | some ts =>
    rw [hr] at e
    exact do1_ok rfl rfl e rfl (fun _ => rfl)
  | none =>
    rw [hr] at e
    exact do1_err rfl rfl e textE w_text (fun _ => rfl)
theorem ans_dep (h : Bok m b) : Dep 3 (ansD b s) ∧ imD (ansD b s) = .ok (ansD b s) := by
  unfold ansD
  cases hr : readV b s with
  | none => exact ⟨dep_str 3 (by decide +kernel), rfl⟩
  | some ts =>
    refine ⟨dep_lst (n := 2) fun d hd => ?_, rfl⟩
    obtain ⟨t, ht, rfl⟩ := List.mem_map.mp hd
    unfold readV at hr
    cases hg : lwGo b (Str.ofString "") (Txt.split s pl) with
    | none => rw [hg] at hr; cases hr
    | some us =>
      rw [hg] at hr
      simp only at hr
      split at hr
      · cases hr
        obtain ⟨hm, _⟩ := lwGo_iff.mp hg
        obtain ⟨p, hp, q⟩ := mapM_mem hm ht
        have ok := (lwk_iff.mp q).2.1
        have nm := nm_ok (h.nmOk (shrD_pr ok).2.1)
        refine dep_tup (n := 1) fun d hd => ?_
        simp only [List.mem_cons, List.not_mem_nil, or_false] at hd
        rcases hd with rfl | rfl
        · exact dep_str 1 nm
        · refine dep_tup (n := 0) fun d hd => ?_
          simp only [List.mem_cons, List.not_mem_nil, or_false] at hd
          rcases hd with rfl | rfl <;> exact dep_int 0 _
      · cases hr
end
def rho (ns : List Int) (b : Bk) (x2 x3 x4 x5 x6 x7 x8 : Sl) : Rho := [.im (.scr ns), .im (bkD b), x2, x3, x4, x5, x6, x7, x8, .un, .un]
noncomputable abbrev kBody : Rho → R Fl := (fSeq (fAsg (.nm 8) (fCall 3 F_u_law_spoilt (fCons (fVar 6) (fCons (fCall 3 F_u_law_pick (fCons (fVar 0) (fCons (fBin addD (fK (.int 200)) (fVar 7)) (fCons (fBin powI (fK (.int 10)) (fK (.int 9))) fNil)))) (fCons (fBin ixD (fL (fLst (fCons (fK (.str (Str.ofString "0123/ +"))) (fCons (fK (.str (Str.ofString "awz -_A"))) fNil)))) (fBin modI (fVar 7) (fK (.int 2)))) fNil)))))
    (fIfS (fTest (fBin neD (fCall 3 F_u_law_do (fCons (fK (.int 1)) (fCons (fVar 1) (fCons (fVar 8) fNil)))) (fCall 2 F_u_law_read (fCons (fVar 1) (fCons (fVar 8) fNil))))) (fRet (fK (.bl false))) fNx))
noncomputable abbrev sBody : Rho → R Fl := (fSeq (fAsg (.nm 6) (fCall 1 F_u_law_written (fCons (fVar 3) fNil)))
    (fSeq (fIfS (fOr (fTest (fBin neD (fCall 3 F_u_law_do (fCons (fK (.int 0)) (fCons (fVar 1) (fCons (fVar 3) fNil)))) (fVar 6))) (fTest (fBin neD (fCall 3 F_u_law_do (fCons (fK (.int 0)) (fCons (fVar 1) (fCons (fCallB tupleD (fConsB (fVar 3) fNil)) fNil)))) (fVar 6)))) (fRet (fK (.bl false))) fNx)
    (fSeq (fIfS (fTest (fBin neD (fCall 3 F_u_law_do (fCons (fK (.int 1)) (fCons (fVar 1) (fCons (fVar 6) fNil)))) (fVar 3))) (fRet (fK (.bl false))) fNx)
    (fFor (.nm 7) (fRg rangeD1 (fCons (fK (.int 4)) fNil)) kBody))))
section
variable {ns : List Int} {m k : Nat} {b : Bk} {w : Str → Rat} {T : Str}
theorem mod_two (k : Nat) : ((k : Int).fmod 2) = ((k % 2 : Nat) : Int) := by
  rw [Int.fmod_eq_emod_of_nonneg _ (by decide)]
  omega
theorem kBody_ok (h : Bok m b) (hT : Ac T) (hl : T.length ≤ 140) (k : Nat) {x2 x3 x4 x5 x8 : Sl} : ∃ y8, kBody (rho ns b x2 x3 x4 x5 (.im (.str T)) (.im (.int (k : Int))) x8) = .ok (.nx (rho ns b x2 x3 x4 x5 (.im (.str T)) (.im (.int (k : Int))) y8)) := by
  obtain ⟨p1, p2, p3⟩ := pick_ok ns (200 + (k : Int)) (10 ^ 9) (by omega) (by decide)
  obtain ⟨G, hG, g1, g2, gi⟩ : ∃ G : Str, Ac G ∧ 1 ≤ G.length ∧ G.length ≤ 1000 ∧ fBin ixD (fL (fLst (fCons (fK (.str (Str.ofString "0123/ +"))) (fCons (fK (.str (Str.ofString "awz -_A"))) fNil)))) (fBin modI (fVar 7) (fK (.int 2))) (rho ns b x2 x3 x4 x5 (.im (.str T)) (.im (.int (k : Int))) x8) = .ok (.str G) := by
    have e : fBin modI (fVar 7) (fK (.int 2)) (rho ns b x2 x3 x4 x5 (.im (.str T)) (.im (.int (k : Int))) x8) = .ok (.int ((k % 2 : Nat) : Int)) := by
      show modI (rho ns b x2 x3 x4 x5 (.im (.str T)) (.im (.int (k : Int))) x8) (.int (k : Int)) (.int 2) = _
      rw [x_modI, if_pos (by decide), mod_two]
    have l : fL (fLst (fCons (fK (.str (Str.ofString "0123/ +"))) (fCons (fK (.str (Str.ofString "awz -_A"))) fNil))) (rho ns b x2 x3 x4 x5 (.im (.str T)) (.im (.int (k : Int))) x8) = .ok (.lst [.str (Str.ofString "0123/ +"), .str (Str.ofString "awz -_A")]) := rfl
    rcases Nat.mod_two_eq_zero_or_one k with c | c
    · refine ⟨Str.ofString "0123/ +", ac_dec (by decide +kernel), by decide +kernel, by decide +kernel, ?_⟩
      rw [x_fBin, l, bnd_ok, e, bnd_ok, c]
      exact ix_lst rfl
    · refine ⟨Str.ofString "awz -_A", ac_dec (by decide +kernel), by decide +kernel, by decide +kernel, ?_⟩
      rw [x_fBin, l, bnd_ok, e, bnd_ok, c]
      exact ix_lst rfl
  obtain ⟨S, e, sp⟩ := F_lawspoilt (cell := pk ns (200 + (k : Int)) (10 ^ 9)) hT hG (by omega) g1 g2
  have hS := sp.ac
  have lS := sp.len
  have pw : fBin powI (fK (.int 10)) (fK (.int 9)) (rho ns b x2 x3 x4 x5 (.im (.str T)) (.im (.int (k : Int))) x8) = .ok (.int (10 ^ 9)) := by
    have q : powB 10 9 = true := okB_iff.mpr ⟨by decide, by decide, Nat.lt_of_lt_of_le (by decide : (10 : Int).natAbs < 2 ^ 4) (Nat.pow_le_pow_right (by decide) (by decide))⟩
    show (if powB 10 9 then R.ok (D.int ((10 : Int) ^ 9)) else .stuck) = _
    rw [if_pos q]
  obtain ⟨d1, d2⟩ := ans_dep (s := S) h
  refine ⟨.im (.str S), ?_⟩
  refine seq_go (r' := rho ns b x2 x3 x4 x5 (.im (.str T)) (.im (.int (k : Int))) (.im (.str S))) (asg_to (d := .str S) (call_3 (a := .str T) rfl rfl (call_3 (a := .scr ns) (b := .int (200 + (k : Int))) rfl rfl rfl rfl pw rfl p1) rfl gi rfl e) rfl (by show 8 < 11; decide) rfl) ?_
  have lr : F_u_law_read [bkD b, .str S] = .ok (ansD b S) := F_lawread h hS (by omega)
  exact if_skip (ne_no (call_3 (a := .int 1) (b := bkD b) (c := .str S) rfl rfl rfl rfl rfl rfl (do1_text h hS (by omega))) (call_2 (a := bkD b) (b := .str S) rfl rfl rfl rfl lr) d1 (by decide))
theorem p19 : (2 : Nat) ^ 19 < 10 ^ 6 := by decide
theorem sBody_ok (h : Bok m b) (hw : Wt (nms b) 19 w) {x2 x4 x5 x6 x7 x8 : Sl} : ∃ y6 y7 y8, sBody (rho ns b x2 (.im (.lst ((canon (nms b) w).map pr))) x4 x5 x6 x7 x8) = .ok (.nx (rho ns b x2 (.im (.lst ((canon (nms b) w).map pr))) x4 x5 y6 y7 y8)) := by
  obtain ⟨a1, a2, a3, a4⟩ := canon_facts h hw (by decide)
  obtain ⟨ps, hps⟩ : ∃ ps, ps = canon (nms b) w := ⟨_, rfl⟩
  have wr : ∀ p ∈ ps, Wr p ∧ Ac p.1 := fun p hp => by
    rw [hps] at hp
    obtain ⟨q1, q2, q3, q4, q5⟩ := a2 p hp
    have := nm_len q1
    exact ⟨⟨by omega, q2, q5.mono (by decide)⟩, nm_ac q1⟩
  have tx0 := wt_text (A := .lst ((canon (nms b) w).map pr)) h hw (by decide) (.inl rfl)
  have tx1 := wt_text (A := .tup ((canon (nms b) w).map pr)) h hw (by decide) (.inr rfl)
  have len6 : ∀ p ∈ ps, (pcx p).length ≤ 20 := fun p hp => by
    rw [hps] at hp
    obtain ⟨q1, q2, q3, q4, q5⟩ := a2 p hp
    have n6 := (nmS_ac (nm_nmS q1)).2.2
    have i1 : (istr p.2.num).length ≤ 6 := by
      obtain ⟨n, hn⟩ := istr_nat q2
      have := q5.1
      rw [hn] at this ⊢
      exact istr_len (by decide) (Nat.lt_trans this p19)
    have i2 : (istr (p.2.den : Int)).length ≤ 6 := istr_len (by decide) (Nat.lt_trans q5.2 p19)
    unfold pcx ftx
    rw [len_app, len_app, sp_len]
    split
    · omega
    · rw [len_app, len_app, sl_len]
      omega
  obtain ⟨T, hT⟩ : ∃ T, T = txt ps := ⟨_, rfl⟩
  have l140 : T.length ≤ 140 := by
    rw [hT]
    unfold txt
    rw [join_eq]
    have e := StrLaws.join_length_le pl (ps.map pcx)
    have s := sum_le_mul (l := (ps.map pcx).map (·.length)) (k := 20) (fun x hx => by
      obtain ⟨y, hy, rfl⟩ := List.mem_map.mp hx
      obtain ⟨p, hp, rfl⟩ := List.mem_map.mp hy
      exact len6 p hp)
    rw [List.length_map, List.length_map] at s
    rw [pl_len, List.length_map] at e
    have : ps.length ≤ 6 := by rw [hps]; exact a3
    omega
  have acT : Ac T := by
    rw [hT]
    exact txt_ac fun p hp => ⟨(wr p hp).2, (wr p hp).1.2.1⟩
  have rb := wt_read h hw (by decide) (by rw [← hps, ← hT]; omega)
  have lw := F_lawwritten (ps := ps) (by rw [hps]; exact a1) wr (by rw [hps]; omega)
  rw [← hps, ← hT] at tx0 tx1 rb
  rw [← hT] at lw
  rw [← hps]
  obtain ⟨A, hA⟩ : ∃ A : D, A = .lst (ps.map pr) := ⟨_, rfl⟩
  have dA : Dep 3 (.lst (ps.map pr)) := by rw [hps]; exact canon_dep h w
  have d0 : F_u_law_do [.int 0, bkD b, .lst (ps.map pr)] = .ok (.str T) := do0_ok rfl rfl tx0 rfl (fun _ => rfl)
  have d1 : F_u_law_do [.int 0, bkD b, .tup (ps.map pr)] = .ok (.str T) := do0_ok rfl rfl tx1 rfl (fun _ => rfl)
  have d2 : F_u_law_do [.int 1, bkD b, .str T] = .ok (.lst (ps.map pr)) := do1_ok rfl rfl rb rfl (fun _ => rfl)
  obtain ⟨r2, fo, y7, y8, rfl⟩ := forGo_mem (t := .nm 7) (fb := kBody) (fun i : Nat => D.int (i : Int)) (fun r => ∃ x7 x8, r = rho ns b x2 (.im (.lst (ps.map pr))) x4 x5 (.im (.str T)) x7 x8) (List.range 4) (fun k _ r hr => by
    obtain ⟨x7, x8, rfl⟩ := hr
    obtain ⟨y8, e⟩ := kBody_ok (ns := ns) h acT l140 k (x2 := x2) (x3 := .im (.lst (ps.map pr))) (x4 := x4) (x5 := x5) (x8 := x8)
    exact ⟨_, _, rfl, .inl e, _, _, rfl⟩) (rho ns b x2 (.im (.lst (ps.map pr))) x4 x5 (.im (.str T)) x7 x8) ⟨_, _, rfl⟩
  refine ⟨.im (.str T), y7, y8, ?_⟩
  refine seq_go (r' := rho ns b x2 (.im (.lst (ps.map pr))) x4 x5 (.im (.str T)) x7 x8) (asg_to (d := .str T) (call_1 (a := .lst (ps.map pr)) rfl rfl lw) rfl (by show 6 < 11; decide) rfl) ?_
  have dT : Dep 1 (.str T) := dep_str 1 acT.ok
  refine seq_go (if_skip (or_no (ne_no (call_3 (a := .int 0) (b := bkD b) (c := .lst (ps.map pr)) rfl rfl rfl rfl rfl rfl d0) rfl dT (by decide)) (ne_no (call_3 (a := .int 0) (b := bkD b) (c := .tup (ps.map pr)) rfl rfl rfl rfl rfl rfl d1) rfl dT (by decide)))) ?_
  refine seq_go (if_skip (ne_no (call_3 (a := .int 1) (b := bkD b) (c := .str T) rfl rfl rfl rfl rfl rfl d2) rfl dA (by decide))) ?_
  exact for_go (ds := (List.range 4).map fun i : Nat => D.int (i : Int)) (rangeD1_ok 4 (by decide)) fo
end
def lw0 (p : Str) : Option Tq := match Txt.split p sp with
  | [a, w] => if decide ((Txt.split w sl).length ≤ 2) && (Txt.split w sl).all canonN then (match Txt.split w sl with
    | [x] => some (a, numV x, 1)
    | [x, y] => if decide (Nat.gcd (numV x) (numV y) = 1) && !decide (numV y = 1) then some (a, numV x, numV y) else none
    | _ => none) else none
  | _ => none
theorem lwk_lw0 {b : Bk} {p : Str} {t : Tq} (h : lwk b p = some t) : lw0 p = some t ∧ t.1 ∈ nms b := by
  have hn := (shrD_pr (lwk_iff.mp h).2.1).2.1
  refine ⟨?_, hn⟩
  unfold lwk at h
  unfold lw0
  split at h
  · rename_i a w e1
    split at h
    · rename_i hc
      simp only [Bool.and_eq_true, decide_eq_true_eq] at hc
      try rw [e1]
      try simp only
      rw [if_pos (by simp only [Bool.and_eq_true, decide_eq_true_eq]; exact hc.2)]
      exact h
    · cases h
  · cases h
def badT (s : Str) : Bool := match (Txt.split s pl).mapM lw0 with
  | none => true
  | some ts => ts.any (fun t => t.1 == Str.ofString "none") || (!upB (ts.map (·.1)) || !decide (sumR (ts.map qT) = 1))
theorem bad_none {m : Nat} {b : Bk} {s : Str} (h : Bok m b) (hn : Str.ofString "none" ∉ nms b) (hb : badT s = true) : readV b s = none := by
  unfold readV
  cases hg : lwGo b (Str.ofString "") (Txt.split s pl) with
  | none => rfl
  | some ts =>
    obtain ⟨hm, hu⟩ := lwGo_iff.mp hg
    have e0 : (Txt.split s pl).mapM lw0 = some ts := by
      refine mapM_iff.mpr ?_
      rw [← mapM_iff.mp hm]
      refine List.map_congr_left fun p hp => ?_
      obtain ⟨t, _, e⟩ := mapM_mem2 hm hp
      rw [e]
      exact (lwk_lw0 e).1
    have mem : ∀ t ∈ ts, t.1 ∈ nms b := fun t ht => by
      obtain ⟨p, _, e⟩ := mapM_mem hm ht
      exact (lwk_lw0 e).2
    rw [up_first h (fun x hx => by
      obtain ⟨t, ht, rfl⟩ := List.mem_map.mp hx
      exact mem t ht)] at hu
    unfold badT at hb
    rw [e0] at hb
    simp only [Bool.or_eq_true, List.any_eq_true, beq_iff_eq, Bool.not_eq_true', decide_eq_false_iff_not] at hb
    simp only
    rcases hb with ⟨t, ht, e⟩ | hb | hb
    · exact absurd (e ▸ mem t ht) hn
    · rw [hu] at hb; cases hb
    · rw [if_neg (by rw [decide_eq_true_eq]; exact hb)]
def L (s : String) : Str := Str.ofString s
def oddT (n : Str) : List Str := [L "", n, n ++ L " 1/1", n ++ L " 01", n ++ L " 1 ", L " " ++ n ++ L " 1", n ++ L " 2/2", n ++ L " 1/2", n ++ L " +1", n ++ L " 1 + ", n ++ L "  1", L "none 1", n ++ L " 1/", n ++ L " /1",
  n ++ L " 1/2 + " ++ n ++ L " 1/2", n ++ L " 1\n", n ++ L " 1 + " ++ n ++ L " 0", n ++ L " 2 + z -1"]
def oddD (n : Str) : List D := (oddT n).map .str ++ [.non, .int 5, .lst [.tup [.str n, .tup [.int 1, .int 1]]], .tup [.str n, .str (L "1")]]
def allN : List Str := lawNames ++ [Str.ofString "sole"]
theorem odd_bad : (allN.all fun n => (oddT n).all fun s => badT s && (decide (s.length ≤ 300) && (tl s).all fun c => decide (c < 128))) = true := by decide +kernel
theorem nm0_all {n : Str} (h : Nm0 n) : n ∈ allN := by
  rcases h with h | rfl
  · exact List.mem_append_left _ h
  · exact List.mem_append_right _ (List.mem_singleton.mpr rfl)
theorem none_not : Str.ofString "none" ∉ allN := by decide +kernel
section
variable {m : Nat} {b : Bk} {n : Str}
theorem odd_no (h : Bok m b) (hN : ∀ p ∈ b, Nm0 p.1) (hn : Nm0 n) : ∀ X ∈ oddD n, imD X = .ok X ∧ F_u_law_do [.int 1, bkD b, X] = .ok (.str nt) := by
  have nn : Str.ofString "none" ∉ nms b := fun hm => by
    obtain ⟨p, hp, e⟩ := List.mem_map.mp hm
    exact none_not (e ▸ nm0_all (hN p hp))
  have kind : ∀ X : D, imD X = .ok X → (∀ r, ownL r X = true) → isTy X "str" = false → F_u_law_do [.int 1, bkD b, X] = .ok (.str nt) := fun X ix own ty => by
    refine do1_err rfl ix ?_ textE w_text (fun _ => rfl)
    have lb : fExpr (fCall 1 F_look_book (fCons (fVar 0) fNil)) [.im (bkD b), .im X, .un, .un] = .ok (.nx [.im (bkD b), .im X, .un, .un]) := by
      rw [x_fExpr, call_1 (a := bkD b) rfl rfl (F_lookbook h)]; rfl
    refine runF_err (r0 := [.im (bkD b), .im X, .un, .un]) rfl ?_
    unfold B_read_shares
    rw [seq_nx lb, x_fSeq, x_fIfS, x_fNot, x_fTest, x_fIsi, show fVar 1 [.im (bkD b), .im X, .un, .un] = .ok X from rfl, bnd_ok, if_pos (own _)]
    simp only [List.any_cons, List.any_nil, ty, Bool.or_false]
    rfl
  intro X hX
  rcases List.mem_append.mp hX with hX | hX
  · obtain ⟨s, hs, rfl⟩ := List.mem_map.mp hX
    refine ⟨rfl, ?_⟩
    have q := List.all_eq_true.mp (List.all_eq_true.mp odd_bad n (nm0_all hn)) s hs
    simp only [Bool.and_eq_true, decide_eq_true_eq] at q
    have e := do1_text h (ac_dec q.2.2) q.2.1
    unfold ansD at e
    rw [bad_none h nn q.1] at e
    exact e
  · simp only [List.mem_cons, List.not_mem_nil, or_false] at hX
    rcases hX with rfl | rfl | rfl | rfl
    · exact ⟨rfl, kind _ rfl (fun _ => rfl) rfl⟩
    · exact ⟨rfl, kind _ rfl (fun _ => rfl) rfl⟩
    · exact ⟨rfl, kind _ rfl (fun _ => rfl) rfl⟩
    · exact ⟨rfl, kind _ rfl (fun _ => rfl) rfl⟩
def odd0 (n : Str) : List D := [.non, .lst [], .lst [.tup [.str n, .tup [.int 1, .int 2]]], .str (n ++ L " 1"), .lst [.tup [.str n, .int 1]], .lst [.tup [.str (L "none"), .tup [.int 1, .int 1]]]]
theorem nosh (h : Bok m b) {X : D} (ix : imD X = .ok X) (e : F_are_shares_in [bkD b, X] = .ok (.bl false)) : F_u_law_do [.int 0, bkD b, X] = .ok (.str (Str.ofString "no shares")) := by
  refine do0_err rfl ix ?_ shE w_sh (fun _ => rfl)
  refine runF_err (r0 := [.im (bkD b), .im X]) rfl ?_
  have lb : fExpr (fCall 1 F_look_book (fCons (fVar 0) fNil)) [.im (bkD b), .im X] = .ok (.nx [.im (bkD b), .im X]) := by
    rw [x_fExpr, call_1 (a := bkD b) rfl rfl (F_lookbook h)]; rfl
  refine seq_go lb (seq_err (expr_err (call_2e (a := bkD b) (b := X) rfl rfl rfl ix (look_sh_no ix e))))
theorem odd0_no (h : Bok m b) (hN : ∀ p ∈ b, Nm0 p.1) (hn : n ∈ nms b) (hn0 : Nm0 n) : ∀ X ∈ odd0 n, imD X = .ok X ∧ F_u_law_do [.int 0, bkD b, X] = .ok (.str (Str.ofString "no shares")) := by
  have nn : Str.ofString "none" ∉ nms b := fun hm => by
    obtain ⟨p, hp, e⟩ := List.mem_map.mp hm
    exact none_not (e ▸ nm0_all (hN p hp))
  have nok := nm_ok (nm0_nm hn0)
  have nlen := nm_len (nm0_nm hn0)
  have lvi : ∀ (w n : Nat) (i : Int), i.natAbs < 2 ^ 64 → Lv w n (.int i) := fun w n i hi => .int n i hi
  have one : ∀ (x : Str) (y : D), PyData.strOk x = true → x.length ≤ 100 → Lv 4 1 y → Lv 4 2 (.tup [.str x, y]) := fun x y h1 h2 hy => .tup 1 _ (by simp) fun d hd => by
    simp only [List.mem_cons, List.not_mem_nil, or_false] at hd
    rcases hd with rfl | rfl
    · exact .str 1 _ h1 h2
    · exact hy
  have pair : ∀ a c : Int, a.natAbs < 2 ^ 64 → c.natAbs < 2 ^ 64 → Lv 4 1 (.tup [.int a, .int c]) := fun a c h1 h2 => .tup 0 _ (by simp) fun d hd => by
    simp only [List.mem_cons, List.not_mem_nil, or_false] at hd
    rcases hd with rfl | rfl
    · exact .int 0 _ h1
    · exact .int 0 _ h2
  have single : ∀ X : D, Lv 4 2 X → shD b [X] = false → F_are_shares_in [bkD b, .lst [X]] = .ok (.bl false) := fun X hX hs => by
    have e := F_areshD (A := .lst [X]) h (.inl rfl) (fun x hx => by rw [List.mem_singleton.mp hx]; exact hX) (by simp)
    rw [hs] at e
    exact e
  intro X hX
  simp only [odd0, List.mem_cons, List.not_mem_nil, or_false] at hX
  rcases hX with rfl | rfl | rfl | rfl | rfl | rfl
  · exact ⟨rfl, nosh h rfl (F_areshK (fun _ => rfl) rfl)⟩
  · refine ⟨rfl, nosh h rfl ?_⟩
    have e := F_areshD (A := .lst []) (w := 0) (n := 0) (xs := []) h (.inl rfl) (fun x hx => by cases hx) (by simp)
    rw [show shD b [] = false from by
      unfold shD
      rw [show decide (sumR (([] : List D).map frOf) = 1) = false from by decide +kernel]
      simp] at e
    exact e
  · refine ⟨rfl, nosh h rfl (single _ (one _ _ nok nlen (pair 1 2 (by decide) (by decide))) ?_)⟩
    unfold shD
    have : decide (sumR ([D.tup [.str n, .tup [.int 1, .int 2]]].map frOf) = 1) = false := by
      show decide (sumR [Rat.divInt 1 2] = 1) = false
      decide +kernel
    rw [this]
    simp
  · exact ⟨rfl, nosh h rfl (F_areshK (fun _ => rfl) rfl)⟩
  · refine ⟨rfl, nosh h rfl (single _ (one _ _ nok nlen (.int 1 1 (by decide))) ?_)⟩
    rfl
  · refine ⟨rfl, nosh h rfl (single _ (one _ _ (by decide +kernel) (by decide +kernel) (pair 1 1 (by decide) (by decide))) ?_)⟩
    unfold shD
    have : okPr b (.tup [.str (L "none"), .tup [.int 1, .int 1]]) = false := by
      show (decide (Str.ofString "none" ∈ nms b) && _) = false
      rw [decide_eq_false nn]
      rfl
    rw [List.all_cons, this]
    rfl
theorem nobook (w : Int) (hw : w = 0 ∨ w = 1) : F_u_law_do [.int w, .non, .non] = .ok (.str (Str.ofString "no book")) := by
  have nb : F_look_book [.non] = .err (Str.ofString "NoBook") := lookbook_no rfl (by kernel_rfl)
  rcases hw with rfl | rfl
  · exact do0_err rfl rfl (runF_err (r0 := [.im .non, .im .non]) rfl (seq_err (expr_err (call_1e rfl rfl nb)))) bookE w_book (fun _ => rfl)
  · exact do1_err rfl rfl (runF_err (r0 := [.im .non, .im .non, .un, .un]) rfl (seq_err (expr_err (call_1e rfl rfl nb)))) bookE w_book (fun _ => rfl)
end
theorem app_go2 {i : Nat} {f : Rho → R D} {r r' : Rho} {ds : List D} {d : D} (h : r[i]? = some (.ol ds)) (hf : f r = .ok d) (im : imD d = .ok d) (hl : decide (ds.length < sizeLine) = true) (e : r.set i (.ol (ds ++ [d])) = r') : fApp i f r = .ok (.nx r') := by
  rw [x_fApp, h]
  simp only
  rw [hf, bnd_ok, im, bnd_ok, hl, ← e]
  rfl
theorem frz_go {i : Nat} {s1 : Rho → R Fl} {r r' : Rho} {ds : List D} {x : R Fl} (h : r[i]? = some (.ol ds)) (e : r.set i (.im (.lst ds)) = r') (h2 : s1 r' = x) : fFrz i s1 r = x := by
  rw [x_fFrz, h, ← h2, ← e]
theorem ext_go {i : Nat} {f : Rho → R D} {r r' : Rho} {ds es : List D} (h : r[i]? = some (.ol ds)) (hf : f r = .ok (.lst es)) (hl : decide (ds.length + es.length ≤ sizeLine) = true) (e : r.set i (.ol (ds ++ es)) = r') : fExt i f r = .ok (.nx r') := by
  rw [x_fExt, h]
  simp only
  rw [hf, bnd_ok]
  show (if decide (ds.length + es.length ≤ sizeLine) = true then _ else _) = _
  rw [hl, ← e]
  rfl
theorem setN_go {i : Nat} {f : Rho → R (List D)} {r r' : Rho} {ds : List D} (hf : f r = .ok ds) (hi : i < r.length) (e : r.set i (.ol ds) = r') : fAsgN i f r = .ok (.nx r') := by
  rw [x_fAsgN, hf, bnd_ok, if_pos (decide_eq_true hi), e]
theorem third_eq : fr (Rat.divInt 1 3) = .tup [.int 1, .int 3] := by
  unfold fr
  rw [show (Rat.divInt 1 3).num = 1 from by decide +kernel, show (Rat.divInt 1 3).den = 3 from by decide +kernel]
  rfl
section
variable {ns : List Int} {m : Nat} {b : Bk} {n : Str} {x2 x3 x5 x6 x7 x8 : Sl}
theorem ad (r : Rho) (n : Str) (lit : Str) (hn : n.length ≤ 500) (hl : decide (lit.length ≤ 60) = true) : addD r (.str n) (.str lit) = .ok (.str (n ++ lit)) := addD_str (by have := of_decide_eq_true hl; omega)
theorem rest_ok (h : Bok m b) (hN : ∀ p ∈ b, Nm0 p.1) (hn : n ∈ nms b) (hn0 : Nm0 n) (r : Sl → Sl → Rho) (hr : r = fun x5 x6 => rho ns b x2 x3 (.im (.str n)) x5 x6 x7 x8) :
    (fSeq (fAsgN 5 (fLst (fCons (fK (.str (Str.ofString ""))) (fCons (fVar 4) (fCons (fBin addD (fVar 4) (fK (.str (Str.ofString " 1/1")))) (fCons (fBin addD (fVar 4) (fK (.str (Str.ofString " 01")))) (fCons (fBin addD (fVar 4) (fK (.str (Str.ofString " 1 ")))) (fCons (fBin addD (fBin addD (fK (.str (Str.ofString " "))) (fVar 4)) (fK (.str (Str.ofString " 1")))) (fCons (fBin addD (fVar 4) (fK (.str (Str.ofString " 2/2")))) fNil)))))))))
    (fSeq (fExt 5 (fL (fLst (fCons (fBin addD (fVar 4) (fK (.str (Str.ofString " 1/2")))) (fCons (fBin addD (fVar 4) (fK (.str (Str.ofString " +1")))) fNil)))))
    (fSeq (fExt 5 (fL (fLst (fCons (fBin addD (fVar 4) (fK (.str (Str.ofString " 1 + ")))) (fCons (fBin addD (fVar 4) (fK (.str (Str.ofString "  1")))) (fCons (fK (.str (Str.ofString "none 1"))) (fCons (fBin addD (fVar 4) (fK (.str (Str.ofString " 1/")))) (fCons (fBin addD (fVar 4) (fK (.str (Str.ofString " /1")))) fNil))))))))
    (fSeq (fExt 5 (fL (fLst (fCons (fBin addD (fBin addD (fBin addD (fVar 4) (fK (.str (Str.ofString " 1/2 + ")))) (fVar 4)) (fK (.str (Str.ofString " 1/2")))) (fCons (fBin addD (fVar 4) (fK (.str (Str.ofString " 1\n")))) fNil)))))
    (fExt 5 (fL (fLst (fCons (fBin addD (fBin addD (fBin addD (fVar 4) (fK (.str (Str.ofString " 1 + ")))) (fVar 4)) (fK (.str (Str.ofString " 0")))) (fCons (fBin addD (fVar 4) (fK (.str (Str.ofString " 2 + z -1")))) (fCons (fK .non) (fCons (fK (.int 5)) (fCons (fL (fLst (fCons (fTup (fCons (fVar 4) (fCons (fTup (fCons (fK (.int 1)) (fCons (fK (.int 1)) fNil))) fNil))) fNil))) (fCons (fTup (fCons (fVar 4) (fCons (fK (.str (Str.ofString "1"))) fNil))) fNil))))))))))))) (r x5 x6) = .ok (.nx (r (.ol (oddD n)) x6)) := by
  have nl : n.length ≤ 100 := nm_len (nm0_nm hn0)
  have v4 : ∀ x5 x6, fVar 4 (r x5 x6) = .ok (.str n) := fun x5 x6 => by rw [hr]; rfl
  have i5 : ∀ ds x6, (r (.ol ds) x6)[5]? = some (.ol ds) := fun ds x6 => by rw [hr]; rfl
  have s5 : ∀ ds es x6, (r (.ol ds) x6).set 5 (.ol (ds ++ es)) = r (.ol (ds ++ es)) x6 := fun ds es x6 => by rw [hr]; rfl
  have A : ∀ (lit : Str) x5 x6, decide (lit.length ≤ 60) = true → fBin addD (fVar 4) (fK (.str lit)) (r x5 x6) = .ok (.str (n ++ lit)) := fun lit x5 x6 hl => by
    rw [x_fBin, v4, bnd_ok]
    exact ad (r x5 x6) n lit (by omega) hl
  have A3 : ∀ (l1 l2 : Str) x5 x6, decide (l1.length ≤ 60) = true → decide (l2.length ≤ 60) = true → fBin addD (fBin addD (fBin addD (fVar 4) (fK (.str l1))) (fVar 4)) (fK (.str l2)) (r x5 x6) = .ok (.str (n ++ l1 ++ n ++ l2)) := fun l1 l2 x5 x6 h1 h2 => by
    have q1 := of_decide_eq_true h1
    rw [x_fBin, x_fBin, A _ _ _ h1, bnd_ok, v4, bnd_ok, addD_str (by rw [len_app]; omega), bnd_ok]
    exact ad (r x5 x6) _ l2 (by rw [len_app, len_app]; omega) h2
  have A2 : ∀ x5 x6, fBin addD (fBin addD (fK (.str (Str.ofString " "))) (fVar 4)) (fK (.str (Str.ofString " 1"))) (r x5 x6) = .ok (.str (L " " ++ n ++ L " 1")) := fun x5 x6 => by
    have q1 : (L " ").length = 1 := by decide +kernel
    rw [x_fBin, x_fBin, show fK (.str (Str.ofString " ")) (r x5 x6) = .ok (.str (L " ")) from rfl, bnd_ok, v4, bnd_ok, addD_str (by omega), bnd_ok]
    exact ad (r x5 x6) _ (L " 1") (by rw [len_app]; omega) (by decide +kernel)
  refine seq_go (r' := r (.ol [.str (L ""), .str n, .str (n ++ L " 1/1"), .str (n ++ L " 01"), .str (n ++ L " 1 "), .str (L " " ++ n ++ L " 1"), .str (n ++ L " 2/2")]) x6) (setN_go (ds := [.str (L ""), .str n, .str (n ++ L " 1/1"), .str (n ++ L " 01"), .str (n ++ L " 1 "), .str (L " " ++ n ++ L " 1"), .str (n ++ L " 2/2")]) ?_ (by rw [hr]; show 5 < 11; decide) (by rw [hr]; rfl)) ?_
  · rw [x_fLst, x_fCons, show fK (.str (Str.ofString "")) (r x5 x6) = .ok (.str (L "")) from rfl, bnd_ok, x_imD_str, bnd_ok]
    rw [x_fCons, v4, bnd_ok, x_imD_str, bnd_ok]
    rw [x_fCons, A _ _ _ (by decide +kernel), bnd_ok, x_imD_str, bnd_ok]
    rw [x_fCons, A _ _ _ (by decide +kernel), bnd_ok, x_imD_str, bnd_ok]
    rw [x_fCons, A _ _ _ (by decide +kernel), bnd_ok, x_imD_str, bnd_ok]
    rw [x_fCons, A2, bnd_ok, x_imD_str, bnd_ok]
    rw [x_fCons, A _ _ _ (by decide +kernel), bnd_ok, x_imD_str, bnd_ok]
    rfl
  refine seq_go (ext_go (es := [.str (n ++ L " 1/2"), .str (n ++ L " +1")]) (i5 _ _) ?_ rfl (s5 _ _ _)) ?_
  · rw [x_fL, x_fLst]
    rw [x_fCons, A _ _ _ (by decide +kernel), bnd_ok, x_imD_str, bnd_ok]
    rw [x_fCons, A _ _ _ (by decide +kernel), bnd_ok, x_imD_str, bnd_ok]
    rfl
  refine seq_go (ext_go (es := [.str (n ++ L " 1 + "), .str (n ++ L "  1"), .str (L "none 1"), .str (n ++ L " 1/"), .str (n ++ L " /1")]) (i5 _ _) ?_ rfl (s5 _ _ _)) ?_
  · rw [x_fL, x_fLst]
    rw [x_fCons, A _ _ _ (by decide +kernel), bnd_ok, x_imD_str, bnd_ok]
    rw [x_fCons, A _ _ _ (by decide +kernel), bnd_ok, x_imD_str, bnd_ok]
    rw [x_fCons, show ∀ d r, fK d r = .ok d from fun _ _ => rfl, bnd_ok, x_imD_str, bnd_ok]
    rw [x_fCons, A _ _ _ (by decide +kernel), bnd_ok, x_imD_str, bnd_ok]
    rw [x_fCons, A _ _ _ (by decide +kernel), bnd_ok, x_imD_str, bnd_ok]
    rfl
  refine seq_go (ext_go (es := [.str (n ++ L " 1/2 + " ++ n ++ L " 1/2"), .str (n ++ L " 1\n")]) (i5 _ _) ?_ rfl (s5 _ _ _)) ?_
  · rw [x_fL, x_fLst]
    rw [x_fCons, A3 _ _ _ _ (by decide +kernel) (by decide +kernel), bnd_ok, x_imD_str, bnd_ok]
    rw [x_fCons, A _ _ _ (by decide +kernel), bnd_ok, x_imD_str, bnd_ok]
    rfl
  refine ext_go (es := [.str (n ++ L " 1 + " ++ n ++ L " 0"), .str (n ++ L " 2 + z -1"), .non, .int 5, .lst [.tup [.str n, .tup [.int 1, .int 1]]], .tup [.str n, .str (L "1")]]) (i5 _ _) ?_ rfl (by rw [s5]; rfl)
  rw [x_fL, x_fLst]
  rw [x_fCons, A3 _ _ _ _ (by decide +kernel) (by decide +kernel), bnd_ok, x_imD_str, bnd_ok]
  rw [x_fCons, A _ _ _ (by decide +kernel), bnd_ok, x_imD_str, bnd_ok]
  rw [hr]
  rfl
end
theorem fSeq_assoc (a b c : Rho → R Fl) : fSeq (fSeq a b) c = fSeq a (fSeq b c) := by
  funext r
  rw [x_fSeq, x_fSeq, x_fSeq]
  cases a r with
  | ok x => cases x <;> rfl
  | err c => rfl
  | stuck => rfl
theorem chain5 {a b c d e q : Rho → R Fl} {r r' : Rho} {x : R Fl} (h : (fSeq a (fSeq b (fSeq c (fSeq d e)))) r = .ok (.nx r')) (h2 : q r' = x) : fSeq a (fSeq b (fSeq c (fSeq d (fSeq e q)))) r = x := by
  have e1 : fSeq a (fSeq b (fSeq c (fSeq d (fSeq e q)))) = fSeq (fSeq a (fSeq b (fSeq c (fSeq d e)))) q := by simp only [fSeq_assoc]
  rw [e1]
  exact seq_go h h2
theorem lc_const {i : Nat} {r : Rho} {fi : Rho → R (List D)} {fe : Rho → R D} {X : List D} {d : D} (h1 : fi r = .ok X) (h2 : X.length < 100000) (hi : i < r.length) (hd : noOwn d = true) (h : ∀ x ∈ X, fe ((wipeR r [i]).set i (.im x)) = .ok d) : fLc [i] (.nm i) fi (fun _ => .ok true) fe r = .ok (List.replicate X.length d) := by
  have q := lcGo_all (t := .nm i) (fe := fe) (r := wipeR r [i]) (fun x : D => x) (fun _ => d) X fun x hx => ⟨(wipeR r [i]).set i (.im x), by
    have : (wipeR r [i]).length = r.length := wipeR_length r [i]
    simp only [x_setT_nm]
    rw [if_pos (decide_eq_true (by omega))], h x hx, hd⟩
  rw [List.map_id' ] at q
  rw [fLc_ok h1 h2 q]
  congr 1
  exact List.eq_replicate_iff.mpr ⟨by rw [List.length_map], fun y hy => by
    obtain ⟨x, _, rfl⟩ := List.mem_map.mp hy
    rfl⟩
theorem dep_rep {k : Nat} {d : D} (h : Dep 0 d) : Dep 1 (.lst (List.replicate k d)) := dep_lst (n := 0) fun x hx => by rw [(List.mem_replicate.mp hx).2]; exact h
theorem rep_lst (r : Rho) (d : D) (m : Nat) (h2 : m ≤ 1000) : mulD r (.lst [d]) (.int m) = .ok (.lst (List.replicate m d)) := by
  have e : repB 1 (m : Int) = true := okB_iff.mpr ⟨by omega, by omega, by rw [Nat.one_mul]; exact sz_le (by omega)⟩
  have e2 : (List.replicate ((m : Int)).toNat [d]).flatten = List.replicate m d := by
    simp only [Int.toNat_natCast]
    clear e h2
    induction m with
    | zero => rfl
    | succ m ih => rw [List.replicate_succ, List.flatten_cons, ih, List.replicate_succ]; rfl
  show (match viewL r (.lst [d]) with
    | some ds => if repB ds.length (m : Int) then R.ok (D.lst (List.replicate ((m : Int)).toNat ds).flatten) else R.stuck
    | none => R.stuck) = _
  simp only [viewL, List.length_singleton, e, if_true, e2]
theorem law_true (ns : List Int) (hns : ns.length ≤ 63) : F_law [.scr ns] = .ok (.bl true) := by
  obtain ⟨m, b, h, hN, eb⟩ := law_bookN ns 10 (by decide)
  obtain ⟨W, hW⟩ : ∃ W : Nat → Str → Rat, ∀ k : Nat, Wt (nms b) 5 (W k) ∧ F_u_law_shares [.scr ns, .int (80 + 10 * (k : Int)), bkD b] = .ok (.lst ((canon (nms b) (W k)).map pr)) :=
    ⟨fun k => Classical.choose (law_shares h ns (80 + 10 * (k : Int)) (by omega)), fun k => Classical.choose_spec (law_shares h ns (80 + 10 * (k : Int)) (by omega))⟩
  obtain ⟨A, hA⟩ : ∃ A : (Str → Rat) → D, A = fun w => .lst ((canon (nms b) w).map pr) := ⟨_, rfl⟩
  have eA : ∀ w, A w = .lst ((canon (nms b) w).map pr) := fun w => by rw [hA]
  have imA : ∀ w, imD (A w) = .ok (A w) := fun w => by rw [hA]; rfl
  have w2 : Wt (nms b) 17 (mixW (W 0) (W 1) (Rat.divInt 1 3)) := (hW 0).1.mix (hW 1).1 (by decide +kernel) (by decide +kernel) (l := 2) ⟨by decide +kernel, by decide +kernel⟩
  have led : F_u_law_led [A (W 0), A (W 1), .tup [.int 1, .int 3]] = .ok (A (mixW (W 0) (W 1) (Rat.divInt 1 3))) := by
    rw [← third_eq, eA, eA, eA]
    have h6 := h.nlen
    exact F_lawled (k := 5) (k2 := 2) h.up (fun n hn => nm_ok (h.nmOk hn)) (by omega) (hW 0).1.sm (hW 1).1.sm ⟨by decide +kernel, by decide +kernel⟩ (.inl rfl) (.inl rfl) (by
      have : (5 + 2 + 3) * ((nms b).length + (nms b).length) ≤ 10 * 12 := Nat.mul_le_mul_left _ (by omega)
      omega) (by decide)
  obtain ⟨w3, hw3⟩ : ∃ w3, w3 = mixW (W 0) (W 1) (Rat.divInt 1 3) := ⟨_, rfl⟩
  rw [← hw3] at led w2
  obtain ⟨p0, b', hb⟩ : ∃ p0 b', b = p0 :: b' := by
    have := h.l1
    cases b with
    | nil => simp at this
    | cons p b' => exact ⟨p, b', rfl⟩
  obtain ⟨n, hnn⟩ : ∃ n, n = p0.1 := ⟨_, rfl⟩
  have hn : n ∈ nms b := by rw [hb, hnn]; exact List.mem_cons_self
  have hn0 : Nm0 n := by rw [hnn]; exact hN p0 (by rw [hb]; simp)
  have nl : n.length ≤ 100 := nm_len (nm0_nm hn0)
  have i10 : fBin ixD (fBin ixD (fVar 1) (fK (.int 0))) (fK (.int 0)) = fBin ixD (fBin ixD (fVar 1) (fK (.int 0))) (fK (.int 0)) := rfl
  refine run_rt (r0 := [.im (.scr ns), .un, .un, .un, .un, .un, .un, .un, .un, .un, .un]) rfl ?_
  refine seq_go (r' := rho ns b .un .un .un .un .un .un .un) (asg_to (call_2 (a := .scr ns) (b := .int 10) rfl rfl rfl rfl eb) rfl (by simp) rfl) ?_
  refine seq_go (r' := rho ns b (.ol [A (W 0), A (W 1)]) .un .un .un .un .un .un) (setN_go (ds := [A (W 0), A (W 1)]) ?_ (by show 2 < 11; decide) rfl) ?_
  · have q := lc_range (i := 7) (n := 2) (r := rho ns b .un .un .un .un .un .un .un) (fi := fK (.int 2)) (fe := fCall 3 F_u_law_shares (fCons (fVar 0) (fCons (fBin addD (fK (.int 80)) (fBin mulD (fK (.int 10)) (fVar 7))) (fCons (fVar 1) fNil)))) (fun k => A (W k)) (by decide) rfl (by show 7 < 11; decide) (fun k hk => ⟨by
      have mk : mulB 10 (k : Int) = true := mulB_l (by decide) (by decide)
      refine call_3 (a := .scr ns) (b := .int (80 + 10 * (k : Int))) (c := bkD b) rfl rfl ?_ rfl rfl rfl (by rw [eA]; exact (hW k).2)
      show ((mulD (rho ns b .un .un .un .un .un (.im (.int (k : Int))) .un) (.int 10) (.int (k : Int))).bnd fun y => addD (rho ns b .un .un .un .un .un (.im (.int (k : Int))) .un) (.int 80) y) = _
      rw [x_mulD_int, if_pos mk, bnd_ok, x_addD_int], by rw [eA]; rfl⟩)
    exact q
  refine seq_go (r' := rho ns b (.ol [A (W 0), A (W 1), A w3]) .un .un .un .un .un .un) (app_go2 (ds := [A (W 0), A (W 1)]) (d := A w3) rfl (call_3 (a := A (W 0)) (b := A (W 1)) (c := .tup [.int 1, .int 3]) rfl (imA _) rfl (imA _) rfl rfl led) (imA _) rfl rfl) ?_
  refine frz_go (r := rho ns b (.ol [A (W 0), A (W 1), A w3]) .un .un .un .un .un .un) (r' := rho ns b (.im (.lst [A (W 0), A (W 1), A w3])) .un .un .un .un .un .un) (ds := [A (W 0), A (W 1), A w3]) rfl rfl ?_
  obtain ⟨x2, hx2⟩ : ∃ x2 : Sl, x2 = .im (.lst [A (W 0), A (W 1), A w3]) := ⟨_, rfl⟩
  obtain ⟨r2, fo, x3, x6, x7, x8, rfl⟩ := forGo_mem (t := .nm 3) (fb := sBody) (fun w : Str → Rat => A w) (fun r => ∃ x3 x6 x7 x8, r = rho ns b x2 x3 .un .un x6 x7 x8) [W 0, W 1, w3] (fun w hw r hr => by
    obtain ⟨x3, x6, x7, x8, rfl⟩ := hr
    have wt : Wt (nms b) 19 w := by
      simp only [List.mem_cons, List.not_mem_nil, or_false] at hw
      rcases hw with rfl | rfl | rfl
      · exact (hW 0).1.mono (by decide)
      · exact (hW 1).1.mono (by decide)
      · exact w2.mono (by decide)
    obtain ⟨y6, y7, y8, e⟩ := sBody_ok (ns := ns) (x2 := x2) (x4 := .un) (x5 := .un) (x6 := x6) (x7 := x7) (x8 := x8) h wt
    rw [← eA] at e
    exact ⟨_, _, rfl, .inl e, _, _, _, _, rfl⟩) (rho ns b x2 .un .un .un .un .un .un) ⟨_, _, _, _, rfl⟩
  rw [← hx2]
  refine seq_go (for_go (ds := [A (W 0), A (W 1), A w3]) (by rw [hx2]; rfl) fo) ?_
  refine seq_go (r' := rho ns b x2 x3 (.im (.str n)) .un x6 x7 x8) (asg_to (d := .str n) ?_ rfl (by show 4 < 11; decide) rfl) ?_
  · have e : fBin ixD (fVar 1) (fK (.int 0)) (rho ns b x2 x3 .un .un x6 x7 x8) = .ok (pD p0) := by
      show ixD (rho ns b x2 x3 .un .un x6 x7 x8) (.tup (b.map pD)) (.int 0) = _
      rw [x_ixD_tup, hb, List.map_cons, at_0]
    rw [x_fBin, e, bnd_ok]
    show ixD (rho ns b x2 x3 .un .un x6 x7 x8) (.tup [.str p0.1, .tup (p0.2.map .int)]) (.int 0) = _
    rw [x_ixD_tup, at_0, hnn]
  refine chain5 (r' := rho ns b x2 x3 (.im (.str n)) (.ol (oddD n)) x6 x7 x8) (rest_ok (x2 := x2) (x3 := x3) (x5 := .un) (x6 := x6) (x7 := x7) (x8 := x8) h hN hn hn0 (fun x5 x6 => rho ns b x2 x3 (.im (.str n)) x5 x6 x7 x8) rfl) ?_
  have odds := odd_no h hN hn0
  refine seq_go (if_skip (ne_no (d := .lst (List.replicate 22 (.str nt))) (fL_of ?_) ?_ (dep_rep (dep_str 0 (by decide +kernel))) (by decide))) ?_
  · refine lc_const (X := oddD n) (d := .str nt) rfl (by show 22 < 100000; decide) (by show 6 < 11; decide) rfl fun X hX => ?_
    obtain ⟨q1, q2⟩ := odds X hX
    exact call_3 (a := .int 1) (b := bkD b) (c := X) rfl rfl rfl rfl rfl q1 q2
  · exact rep_lst (rho ns b x2 x3 (.im (.str n)) (.ol (oddD n)) x6 x7 x8) (.str nt) 22 (by decide)
  have ad1 : ∀ x5 x6, fBin addD (fVar 4) (fK (.str (Str.ofString " 1"))) (rho ns b x2 x3 (.im (.str n)) x5 x6 x7 x8) = .ok (.str (n ++ L " 1")) := fun x5 x6 => ad (rho ns b x2 x3 (.im (.str n)) x5 x6 x7 x8) n (L " 1") (by omega) (by decide +kernel)
  have tx1 : txt [(n, 1)] = n ++ L " 1" := by
    show n ++ sp ++ ftx 1 = _
    refine ext_tl ?_
    have e : tl (L " 1") = tl sp ++ tl (ftx 1) := by decide +kernel
    rw [tl_append, tl_append, tl_append, e, List.append_assoc]
  have d1 : F_u_law_do [.int 1, bkD b, .str (n ++ L " 1")] = .ok (.lst [pr (n, 1)]) := by
    rw [← tx1]
    refine do1_ok rfl rfl (read_back h (by simp) (fun p hp => ?_) (by simp) ?_ ?_) rfl (fun _ => rfl)
    · rw [List.mem_singleton.mp hp]
      exact ⟨nm0_nm hn0, by show 0 ≤ (1 : Rat).num; decide +kernel⟩
    · rw [tx1, len_app]
      have : (L " 1").length = 2 := by decide +kernel
      omega
    · unfold shD
      have ok : okPr b (pr (n, 1)) = true := by
        show (decide (n ∈ nms b) && _) = true
        rw [decide_eq_true hn]
        show (true && ((decide (0 < ((1 : Rat).den : Int)) && ((1 : Rat).num.gcd ((1 : Rat).den : Int) == 1)) && decide (0 < (1 : Rat).num))) = true
        decide +kernel
      show ([pr (n, 1)].all (okPr b) && _) = true
      rw [List.all_cons, ok]
      show (true && (true && decide (sumR [frOf (pr (n, 1))] = 1))) = true
      have : frOf (pr (n, 1)) = 1 := by
        show Rat.divInt (1 : Rat).num ((1 : Rat).den : Int) = 1
        exact Rat.num_divInt_den 1
      rw [this]
      decide +kernel
  have dn : Dep 3 (.lst [pr (n, 1)]) := dep_lst (n := 2) fun d hd => by
    rw [List.mem_singleton.mp hd]
    refine dep_tup (n := 1) fun d hd => ?_
    simp only [List.mem_cons, List.not_mem_nil, or_false] at hd
    rcases hd with rfl | rfl
    · exact dep_str 1 (nm_ok (nm0_nm hn0))
    · exact dep_fr 1
  refine seq_go (if_skip (ne_no (d := .lst [pr (n, 1)]) (call_3 (a := .int 1) (b := bkD b) (c := .str (n ++ L " 1")) rfl rfl rfl rfl (ad1 _ _) rfl d1) ?_ dn (by decide))) ?_
  · rfl
  refine seq_go (r' := rho ns b x2 x3 (.im (.str n)) (.ol (odd0 n)) x6 x7 x8) (setN_go (ds := odd0 n) ?_ (by show 5 < 11; decide) rfl) ?_
  · rw [x_fLst]
    rw [x_fCons, show ∀ d r, fK d r = .ok d from fun _ _ => rfl, bnd_ok, x_imD_non, bnd_ok]
    rw [x_fCons, show fL (fLst fNil) (rho ns b x2 x3 (.im (.str n)) (.ol (oddD n)) x6 x7 x8) = .ok (.lst []) from rfl, bnd_ok, x_imD_lst, bnd_ok]
    rw [x_fCons]
    rw [show fL (fLst (fCons (fTup (fCons (fVar 4) (fCons (fTup (fCons (fK (.int 1)) (fCons (fK (.int 2)) fNil))) fNil))) fNil)) (rho ns b x2 x3 (.im (.str n)) (.ol (oddD n)) x6 x7 x8) = .ok (.lst [.tup [.str n, .tup [.int 1, .int 2]]]) from rfl, bnd_ok, x_imD_lst, bnd_ok]
    rw [x_fCons, ad1, bnd_ok, x_imD_str, bnd_ok]
    rfl
  have odds0 := odd0_no h hN hn hn0
  refine seq_go (if_skip (ne_no (d := .lst (List.replicate 6 (.str (Str.ofString "no shares")))) (fL_of ?_) ?_ (dep_rep (dep_str 0 (by decide +kernel))) (by decide))) ?_
  · refine lc_const (X := odd0 n) (d := .str (Str.ofString "no shares")) rfl (by show 6 < 100000; decide) (by show 9 < 11; decide) rfl fun X hX => ?_
    obtain ⟨q1, q2⟩ := odds0 X hX
    exact call_3 (a := .int 0) (b := bkD b) (c := X) rfl rfl rfl rfl rfl q1 q2
  · exact rep_lst (rho ns b x2 x3 (.im (.str n)) (.ol (odd0 n)) x6 x7 x8) (.str (Str.ofString "no shares")) 6 (by decide)
  refine ret_of (d := .bl true) ?_ rfl
  have q := lc_range (i := 10) (n := 2) (r := rho ns b x2 x3 (.im (.str n)) (.ol (odd0 n)) x6 x7 x8) (fi := fK (.int 2)) (fe := fCall 3 F_u_law_do (fCons (fVar 10) (fCons (fK .non) (fCons (fK .non) fNil)))) (fun _ => .str (Str.ofString "no book")) (by decide) rfl (by show 10 < 11; decide) (fun k hk => ⟨call_3 (a := .int (k : Int)) (b := .non) (c := .non) rfl rfl rfl rfl rfl rfl (nobook k (by omega)), rfl⟩)
  rw [x_fBin, fL_of q, bnd_ok]
  have e2 : fBin mulD (fL (fLst (fCons (fK (.str (Str.ofString "no book"))) fNil))) (fK (.int 2)) (rho ns b x2 x3 (.im (.str n)) (.ol (odd0 n)) x6 x7 x8) = .ok (.lst (List.replicate 2 (.str (Str.ofString "no book")))) := rep_lst (rho ns b x2 x3 (.im (.str n)) (.ol (odd0 n)) x6 x7 x8) (.str (Str.ofString "no book")) 2 (by decide)
  rw [e2, bnd_ok]
  have dd : Dep 1 (.lst (List.replicate 2 (.str (Str.ofString "no book")))) := dep_rep (dep_str 0 (by decide +kernel))
  exact eqD_self dd (by decide)
end PL.W60
end
section
open PySem PySem.W PySem.Calls PyProof.Rows
theorem PySem.Challenge.cw_blendstands_k60_whole_texts_holds : PySem.Challenge.rw_blendstands_k60_whole_texts.Holds := by
  w_on; o_law
  refine HandSHeadRun.head_any (r := OpenLaw.row PySem.Challenge.rw_blendstands_k60_whole_texts) (q := view (OpenLaw.row PySem.Challenge.rw_blendstands_k60_whole_texts).prog [56]) (H := PL.W60.hk) (ob := PL.W60.ob) (M := 6000) (loose := PL.W60.lset) (d := HandSHeadRun.topDef (OpenLaw.row PySem.Challenge.rw_blendstands_k60_whole_texts).prog 56) (kwd := []) PL.W60.ob_eq
    (by kernel_rfl) (fun s => by kernel_rfl) PL.W60.run (by kernel_rfl) (by kernel_rfl) (by kernel_rfl) (by rfl) (by first | assumption | decide +kernel) (by decide +kernel) ⟨rfl, rfl, rfl, rfl, rfl, by decide +kernel⟩ ?hw ?hc
  case hw => w_witness2
  case hc =>
    refine PL.walk_ofM (l := PySem.Challenge.rw_blendstands_k60_whole_texts) (n := 63) (k := 9) (x := "script") (CX := fun w => L2.CX (PySem.Challenge.rw_blendstands_k60_whole_texts).prog w) rfl (by decide) (by kernel_rfl) ⟨rfl, by decide, by decide⟩ ?F (fun _ H s e s' h => PL.cx_false H s e s' h)
    intro w mg fa h Y G hmg0
    obtain ⟨K, KX, tu, c⟩ := Y
    have hmg : mg ("law" : PySem.Str) = some (.ref fa) := by
      have e : (HandSHeadRun.topDef (OpenLaw.row PySem.Challenge.rw_blendstands_k60_whole_texts).prog 56).name = ("law" : PySem.Str) := by kernel_rfl
      rw [← e]
      exact hmg0
    obtain ⟨fd, hb, hF⟩ := PL.W60.facts (P := (PySem.Challenge.rw_blendstands_k60_whole_texts).prog) (w := w) KX G hmg tu c
    exact ⟨K, fd, PL.spF K mg 1 PL.W60.F_law, KX, hb, fun H a ns hl _ hS => PL.law_sp PL.W60.law_true H a ns hl hS, hF⟩
end
