import PyProof.Rows.All
import Wide.All
import OpenK.AllK
import Wide.FinOn
import HandS.ForMost
import HandS.ForExc
import HandS.Wide
import HandS.IsInst
import HandS.Zip
import HandS.TupAny
import HandS.TupMul
import HandS.TupLe
import HandS.Defaults
import HandS.Style
import HandS.Deep
import HandS.Conv
import HandS.More
import HandS.ExcOwn
import HandS.HeadHook1
import HandS.HeadHook4
import HandS.Lambda
import HandS.Walk
import KE.GoesMore
import KE.GoesEnum
import HandS.TryOnly
import HandS.Set
import HandS.SetFor
import HandS.Strs
import HandS.Dict
import KE.DataCmp
import KE.KDictList
import KE.KDictZip
import HandS.DictTup
import HandS.ExcIs
import KE.KStateDown
import HandS.Head0
import HandS.Head1
import HandS.Head2
import HandS.HeadEnd
import HandS.HeadHook2
import HandS.SortInts
import KE.IntBitsLaws
import HandS.ListEq
import HandS.HotCalls
import HandS.EndTab
import PySem.Challenge.RW_blendstands_k50_whole_movers
set_option Elab.async false
set_option linter.all false
set_option maxRecDepth 100000
set_option maxHeartbeats 4000000
section
namespace PL
open PySem PySem.Spec PyProof.Rows L2
abbrev St := L2.St
inductive D where
  | non | bl (b : Bool) | int (i : Int) | str (s : Str)
  | tup (ds : List D) | lst (ds : List D)
  | dic (kvs : List (Key × D))
  | own (i : Nat)
  | scr (ns : List Int)
  | tpn (ds : List D)
  | exc (c : Str)
  | fn (x : Str)
  | obj (k : Nat)
  | tpo (ds : List D)
inductive R (α : Type) where
  | ok (a : α) | err (c : Str) | stuck
def R.bnd {α β : Type} (x : R α) (f : α → R β) : R β := match x with
  | .ok a => f a
  | .err c => .err c
  | .stuck => .stuck
@[simp] theorem bnd_ok {α β : Type} (a : α) (f : α → R β) : (R.ok a).bnd f = f a := rfl
@[simp] theorem bnd_err {α β : Type} (c : Str) (f : α → R β) : (R.err c : R α).bnd f = .err c := rfl
@[simp] theorem bnd_stuck {α β : Type} (f : α → R β) : (R.stuck : R α).bnd f = .stuck := rfl
inductive Ob where
  | ins (c : Str) (fs : List (Str × D)) | ls (ds : List D) | tab (x q : Str)
inductive Sl where
  | un | im (d : D) | ol (ds : List D) | od (kvs : List (Key × D)) | st (w : Bool) (os : List Ob)
abbrev Rho := List Sl
def ExcO (cls : Value) (a : Addr) : HO := .ext fun h => ∃ (oe : Obj) (vs : Array Value), h.get? a = some oe ∧ Zc cls none oe ∧ oe.data = .fields vs
def mrk (k : Nat) : HO := .met k 0
def isMk : HO → Bool
  | .met _ 0 => true
  | _ => false
theorem isMk_mrk {o : HO} (h : isMk o = true) : ∃ k, o = mrk k := by
  cases o with
  | met f x =>
    cases x with
    | zero => exact ⟨f, rfl⟩
    | succ x => cases h
  | _ => cases h
class UnM (o : HO) : Prop where
  h : isMk o = false
instance (xs : List V) : UnM (.tup xs) := ⟨rfl⟩
instance (xs : List V) : UnM (.lst xs) := ⟨rfl⟩
instance (xs : List (Key × V)) : UnM (.dK xs) := ⟨rfl⟩
instance (xs : List (List Key × V)) : UnM (.dT xs) := ⟨rfl⟩
instance (φ : Heap → Prop) : UnM (.ext φ) := ⟨rfl⟩
instance (o : Obj) (u : HO) : UnM (.frz o u) := ⟨rfl⟩
instance (C d : Addr) (fs : List (Str × V)) : UnM (.ins C d fs) := ⟨rfl⟩
instance (c : Value) (a : Addr) : UnM (ExcO c a) := ⟨rfl⟩
def um (G : Hp) : Hp := fun a => match G a with
  | some o => if isMk o then none else some o
  | none => none
mutual
inductive Rp (K : PySem.W.Frag) (G : Hp) : V → D → Prop
  | non : Rp K G .non .non
  | bl (b : Bool) : Rp K G (.bl b) (.bl b)
  | int (i : Int) : Rp K G (.int i) (.int i)
  | str (x : Str) : Rp K G (.str x) (.str x)
  | tup {a : Addr} {xs : List V} {ds : List D} : SqT K G a xs → RpA K G xs ds → Rp K G (.ref a) (.tup ds)
  | lst {a : Addr} {xs : List V} {ds : List D} : G a = some (.lst xs) → RpA K G xs ds → Rp K G (.ref a) (.lst ds)
  | scr {a : Addr} {ns : List Int} : SqL K G a (ns.map V.int) → Rp K G (.ref a) (.scr ns)
  | tpn {a : Addr} {o : Obj} {xs : List V} {ds : List D} : G a = some (.frz o (.tup xs)) → o.dict = none → RpA K G xs ds → Rp K G (.ref a) (.tpn ds)
  | dic {a : Addr} {o : Obj} {kvs : List (Key × V)} {ds : List (Key × D)} : G a = some (.frz o (.dK kvs)) → RpK K G kvs ds → Rp K G (.ref a) (.dic ds)
  | exc {a : Addr} {c : Str} : G a = some (ExcO (.ref (He.ga K c)) a) → Rp K G (.ref a) (.exc c)
  | fn {x : Str} : Rp K G (.ref (He.ga K x)) (.fn x)
inductive RpA (K : PySem.W.Frag) (G : Hp) : List V → List D → Prop
  | nil : RpA K G [] []
  | cons {v : V} {vs : List V} {d : D} {ds : List D} : Rp K G v d → RpA K G vs ds → RpA K G (v :: vs) (d :: ds)
inductive RpK (K : PySem.W.Frag) (G : Hp) : List (Key × V) → List (Key × D) → Prop
  | nil : RpK K G [] []
  | cons {k : Key} {v : V} {vs : List (Key × V)} {d : D} {ds : List (Key × D)} : Rp K G v d → RpK K G vs ds → RpK K G ((k, v) :: vs) ((k, d) :: ds)
end
abbrev Ex (H H' : Hp) : Prop := Same H H'
theorem ex_t {K : PySem.W.Frag} {H H' : Hp} {a : Addr} {xs : List V} (e : Ex H H') (h : SqT K H a xs) : SqT K H' a xs := by
  rcases h with (h | ⟨o, h⟩) | h
  · exact .inl (.inl (e _ _ h))
  · exact .inl (.inr ⟨o, e _ _ h⟩)
  · exact .inr h
mutual
theorem Rp.mono {K : PySem.W.Frag} {G G' : Hp} (e : Ex G G') : ∀ {v : V} {d : D}, Rp K G v d → Rp K G' v d
  | _, _, .non => .non
  | _, _, .bl b => .bl b
  | _, _, .int i => .int i
  | _, _, .str x => .str x
  | _, _, .tup h r => .tup (ex_t e h) (RpA.mono e r)
  | _, _, .lst h r => .lst (e _ _ h) (RpA.mono e r)
  | _, _, .tpn h h2 r => .tpn (e _ _ h) h2 (RpA.mono e r)
  | _, _, .scr h => .scr (Same.seq e h)
  | _, _, .dic h r => .dic (e _ _ h) (RpK.mono e r)
  | _, _, .exc h => .exc (e _ _ h)
  | _, _, .fn => .fn
theorem RpA.mono {K : PySem.W.Frag} {G G' : Hp} (e : Ex G G') : ∀ {v : List V} {d : List D}, RpA K G v d → RpA K G' v d
  | _, _, .nil => .nil
  | _, _, .cons h r => .cons (Rp.mono e h) (RpA.mono e r)
theorem RpK.mono {K : PySem.W.Frag} {G G' : Hp} (e : Ex G G') : ∀ {v : List (Key × V)} {d : List (Key × D)}, RpK K G v d → RpK K G' v d
  | _, _, .nil => .nil
  | _, _, .cons h r => .cons (Rp.mono e h) (RpK.mono e r)
end
mutual
inductive RpO (K : PySem.W.Frag) (G : Hp) : V → D → Prop
  | pure {v : V} {d : D} : Rp K G v d → RpO K G v d
  | obj {a : Addr} {k : Nat} : G a = some (mrk k) → RpO K G (.ref a) (.obj k)
  | tpo {a : Addr} {xs : List V} {ds : List D} : SqT K G a xs → RpOA K G xs ds → RpO K G (.ref a) (.tpo ds)
inductive RpOA (K : PySem.W.Frag) (G : Hp) : List V → List D → Prop
  | nil : RpOA K G [] []
  | cons {v : V} {vs : List V} {d : D} {ds : List D} : RpO K G v d → RpOA K G vs ds → RpOA K G (v :: vs) (d :: ds)
end
mutual
theorem RpO.mono {K : PySem.W.Frag} {G G' : Hp} (e : Ex G G') : ∀ {v : V} {d : D}, RpO K G v d → RpO K G' v d
  | _, _, .pure h => .pure (h.mono e)
  | _, _, .obj h => .obj (e _ _ h)
  | _, _, .tpo h r => .tpo (ex_t e h) (RpOA.mono e r)
theorem RpOA.mono {K : PySem.W.Frag} {G G' : Hp} (e : Ex G G') : ∀ {v : List V} {d : List D}, RpOA K G v d → RpOA K G' v d
  | _, _, .nil => .nil
  | _, _, .cons h r => .cons (RpO.mono e h) (RpOA.mono e r)
end
theorem RpA.o {K : PySem.W.Frag} {G : Hp} : ∀ {v : List V} {d : List D}, RpA K G v d → RpOA K G v d
  | _, _, .nil => .nil
  | _, _, .cons h r => .cons (.pure h) (RpA.o r)
theorem RpOA.length {K : PySem.W.Frag} {G : Hp} : ∀ {v : List V} {d : List D}, RpOA K G v d → v.length = d.length
  | _, _, .nil => rfl
  | _, _, .cons _ r => by rw [List.length_cons, List.length_cons, RpOA.length r]
theorem RpOA.get {K : PySem.W.Frag} {G : Hp} : ∀ {v : List V} {ds : List D} {i : Nat} {d : D}, RpOA K G v ds → ds[i]? = some d → ∃ x, v[i]? = some x ∧ RpO K G x d
  | _, _, _, _, .nil, e => by simp at e
  | _, _, 0, _, .cons h _, e => by simp at e; subst e; exact ⟨_, rfl, h⟩
  | _, _, i + 1, d, .cons _ t, e => by
    obtain ⟨u, h1, h2⟩ := RpOA.get (i := i) (d := d) t (by simpa using e)
    exact ⟨u, by simpa using h1, h2⟩
theorem RpOA.getV {K : PySem.W.Frag} {G : Hp} : ∀ {v : List V} {ds : List D} {i : Nat} {x : V}, RpOA K G v ds → v[i]? = some x → ∃ d, ds[i]? = some d ∧ RpO K G x d
  | _, _, _, _, .nil, e => by simp at e
  | _, _, 0, _, .cons h _, e => by simp at e; subst e; exact ⟨_, rfl, h⟩
  | _, _, i + 1, d, .cons _ t, e => by
    obtain ⟨u, h1, h2⟩ := RpOA.getV (i := i) t (by simpa using e)
    exact ⟨u, by simpa using h1, h2⟩
inductive RpF (K : PySem.W.Frag) (G : Hp) : List (Str × V) → List (Str × D) → Prop
  | nil : RpF K G [] []
  | cons {fvs : List (Str × V)} {f : Str} {v : V} {d : D} {ds : List (Str × D)} : RpO K G v d → RpF K G fvs ds → RpF K G ((f, v) :: fvs) ((f, d) :: ds)
theorem RpF.mono {K : PySem.W.Frag} {G G' : Hp} (e : Ex G G') : ∀ {v : List (Str × V)} {d : List (Str × D)}, RpF K G v d → RpF K G' v d
  | _, _, .nil => .nil
  | _, _, .cons h r => .cons (RpO.mono e h) (RpF.mono e r)
theorem RpA.length {K : PySem.W.Frag} {G : Hp} : ∀ {v : List V} {d : List D}, RpA K G v d → v.length = d.length
  | _, _, .nil => rfl
  | _, _, .cons _ r => by rw [List.length_cons, List.length_cons, RpA.length r]
theorem RpA.get {K : PySem.W.Frag} {G : Hp} : ∀ {v : List V} {ds : List D} {i : Nat} {d : D}, RpA K G v ds → ds[i]? = some d → ∃ x, v[i]? = some x ∧ Rp K G x d
  | _, _, _, _, .nil, e => by simp at e
  | _, _, 0, _, .cons h _, e => by simp at e; subst e; exact ⟨_, rfl, h⟩
  | _, _, i + 1, d, .cons _ t, e => by
    obtain ⟨u, h1, h2⟩ := RpA.get (i := i) (d := d) t (by simpa using e)
    exact ⟨u, by simpa using h1, h2⟩
theorem RpA.getV {K : PySem.W.Frag} {G : Hp} : ∀ {v : List V} {ds : List D} {i : Nat} {x : V}, RpA K G v ds → v[i]? = some x → ∃ d, ds[i]? = some d ∧ Rp K G x d
  | _, _, _, _, .nil, e => by simp at e
  | _, _, 0, _, .cons h _, e => by simp at e; subst e; exact ⟨_, rfl, h⟩
  | _, _, i + 1, d, .cons _ t, e => by
    obtain ⟨u, h1, h2⟩ := RpA.getV (i := i) t (by simpa using e)
    exact ⟨u, by simpa using h1, h2⟩
theorem RpA.append {K : PySem.W.Frag} {G : Hp} : ∀ {v w : List V} {d e : List D}, RpA K G v d → RpA K G w e → RpA K G (v ++ w) (d ++ e)
  | _, _, _, _, .nil, s => s
  | _, _, _, _, .cons r t, s => .cons r (RpA.append t s)
theorem RpA.take {K : PySem.W.Frag} {G : Hp} : ∀ {v : List V} {d : List D} (n : Nat), RpA K G v d → RpA K G (v.take n) (d.take n)
  | _, _, 0, _ => .nil
  | _, _, _ + 1, .nil => .nil
  | _, _, n + 1, .cons r t => .cons r (RpA.take n t)
theorem RpA.drop {K : PySem.W.Frag} {G : Hp} : ∀ {v : List V} {d : List D} (n : Nat), RpA K G v d → RpA K G (v.drop n) (d.drop n)
  | _, _, 0, r => r
  | _, _, _ + 1, .nil => .nil
  | _, _, n + 1, .cons _ t => RpA.drop n t
theorem RpA.set {K : PySem.W.Frag} {G : Hp} {x : V} {d : D} (r : Rp K G x d) : ∀ {xs : List V} {us : List D} (i : Nat), RpA K G xs us → RpA K G (xs.set i x) (us.set i d)
  | _, _, _, .nil => .nil
  | _, _, 0, .cons _ t => .cons r t
  | _, _, i + 1, .cons q t => .cons q (RpA.set r i t)
theorem RpA.snoc {K : PySem.W.Frag} {G : Hp} {v : List V} {d : List D} {x : V} {y : D} (h : RpA K G v d) (r : Rp K G x y) : RpA K G (v ++ [x]) (d ++ [y]) := h.append (.cons r .nil)
theorem RpA.replicate {K : PySem.W.Frag} {G : Hp} {v : List V} {d : List D} (h : RpA K G v d) : ∀ n, RpA K G (List.replicate n v).flatten (List.replicate n d).flatten
  | 0 => .nil
  | n + 1 => by
    rw [List.replicate_succ, List.replicate_succ, List.flatten_cons, List.flatten_cons]
    exact h.append (RpA.replicate h n)
theorem RpA.ints {K : PySem.W.Frag} {G : Hp} : ∀ (ns : List Int), RpA K G (ns.map V.int) (ns.map D.int)
  | [] => .nil
  | n :: ns => .cons (.int n) (RpA.ints ns)
theorem um_of {G : Hp} {a : Addr} {o : HO} (h : G a = some o) (m : isMk o = false) : um G a = some o := by
  unfold um
  rw [h]
  simp [m]
theorem um_is {G : Hp} {a : Addr} {o : HO} (h : um G a = some o) : G a = some o ∧ isMk o = false := by
  unfold um at h
  cases e : G a with
  | none => rw [e] at h; cases h
  | some u =>
    rw [e] at h
    cases m : isMk u with
    | true => simp [m] at h
    | false =>
      simp [m] at h
      subst h
      exact ⟨rfl, m⟩
theorem um_none {G : Hp} {a : Addr} (h : G a = none) : um G a = none := by
  unfold um
  rw [h]
theorem um_ex {G G' : Hp} (e : Ex G G') : Ex (um G) (um G') := fun a o h => um_of (e _ _ (um_is h).1) (um_is h).2
theorem um_upd {G : Hp} {p : Addr} {o : HO} (m : isMk o = false) : um (upd G p o) = upd (um G) p o := by
  funext a
  by_cases z : a = p
  · subst z
    rw [upd_same]
    exact um_of upd_same m
  · rw [upd_ne z]
    unfold um
    rw [upd_ne z]
theorem um_t {K : PySem.W.Frag} {G : Hp} {a : Addr} {xs : List V} (h : SqT K G a xs) : SqT K (um G) a xs := by
  rcases h with (h | ⟨o, h⟩) | h
  · exact .inl (.inl (um_of h rfl))
  · exact .inl (.inr ⟨o, um_of h rfl⟩)
  · exact .inr h
theorem um_l {K : PySem.W.Frag} {G : Hp} {a : Addr} {xs : List V} (h : SqL K G a xs) : SqL K (um G) a xs := by
  rcases h with (h | ⟨o, h⟩) | h
  · exact .inl (.inl (um_of h rfl))
  · exact .inl (.inr ⟨o, um_of h rfl⟩)
  · exact .inr h
theorem ex_new {H : Hp} {p : Addr} {o : HO} (h : H p = none) : Ex H (upd H p o) := fun a u e => by
  rw [upd_ne (ne_of_none e h)]
  exact e
theorem ex_upd {G H : Hp} {p : Addr} {o : HO} (e : Ex G H) : Ex (upd G p o) (upd H p o) := fun a u h => by
  by_cases q : a = p
  · subst q
    rw [upd_same] at h ⊢
    exact h
  · rw [upd_ne q] at h ⊢
    exact e _ _ h
theorem ex_into {G H : Hp} {p : Addr} {o : HO} (e : Ex G H) (h : G p = none) : Ex G (upd H p o) := fun a u q => by
  rw [upd_ne (ne_of_none q h)]
  exact e _ _ q
mutual
theorem Rp.um {K : PySem.W.Frag} {G : Hp} : ∀ {v : V} {d : D}, Rp K G v d → Rp K (um G) v d
  | _, _, .non => .non
  | _, _, .bl b => .bl b
  | _, _, .int i => .int i
  | _, _, .str x => .str x
  | _, _, .tup h r => .tup (um_t h) (RpA.um r)
  | _, _, .lst h r => .lst (um_of h rfl) (RpA.um r)
  | _, _, .tpn h h2 r => .tpn (um_of h rfl) h2 (RpA.um r)
  | _, _, .scr h => .scr (um_l h)
  | _, _, .dic h r => .dic (um_of h rfl) (RpK.um r)
  | _, _, .exc h => .exc (um_of h rfl)
  | _, _, .fn => .fn
theorem RpA.um {K : PySem.W.Frag} {G : Hp} : ∀ {v : List V} {d : List D}, RpA K G v d → RpA K (um G) v d
  | _, _, .nil => .nil
  | _, _, .cons h r => .cons (Rp.um h) (RpA.um r)
theorem RpK.um {K : PySem.W.Frag} {G : Hp} : ∀ {v : List (Key × V)} {d : List (Key × D)}, RpK K G v d → RpK K (um G) v d
  | _, _, .nil => .nil
  | _, _, .cons h r => .cons (Rp.um h) (RpK.um r)
end
def ObOk (K : PySem.W.Frag) (G H : Hp) (a : Addr) : Ob → Prop
  | .ins c fs => ∃ dx fvs, H a = some (.ins (He.ga K c) dx fvs) ∧ RpF K G fvs fs ∧ fvs.length < 1000
  | .ls ds => ∃ xs, H a = some (.lst xs) ∧ RpA K G xs ds
  | .tab x q => a = (He.cT K (x, none)).2 ∧ ∃ ps : Array Value, H a = some (.tbl ps) ∧ TriplesOk ps.toList ∧ ∀ (pos : Pos) (cv : Value), codeAmong pos ps.toList = some cv → ∃ c, cv = .ref c ∧ G c = some (LamX.CodeO c q)
structure StOk (K : PySem.W.Frag) (H0 G H : Hp) (w : Bool) (os : List Ob) : Prop where
  at_ : ∀ k ob, os[k]? = some ob → ∃ a, G a = some (mrk k) ∧ ObOk K G H a ob
  un : ∀ a b k, G a = some (mrk k) → G b = some (mrk k) → a = b
  lt : ∀ a k, G a = some (mrk k) → k < os.length
  ch : ∀ a k, G a = some (mrk k) → w = true → H0 a = none
def SlOk (K : PySem.W.Frag) (H0 G H : Hp) : Sl → Option V → Prop
  | .un, _ => True
  | .im d, o => ∃ v, o = some v ∧ RpO K G v d
  | .ol ds, o => ∃ a xs, o = some (.ref a) ∧ H a = some (.lst xs) ∧ G a = none ∧ H0 a = none ∧ RpA K G xs ds
  | .od ks, o => ∃ a kvs, o = some (.ref a) ∧ H a = some (.dK kvs) ∧ G a = none ∧ H0 a = none ∧ RpK K G kvs ks
  | .st w os, _ => StOk K H0 G H w os
def isOwn : Option Sl → Prop
  | some (.ol _) => True
  | some (.od _) => True
  | _ => False
def OwnAt (r : Rho) (s : St) (i : Nat) (a : Addr) : Prop := isOwn r[i]? ∧ s[i]? = some (some (.ref a))
def isSt : Sl → Prop
  | .st _ _ => True
  | _ => False
structure LenOk (r : Rho) (s : St) : Prop where
  lo : s.length ≤ r.length
  hi : r.length ≤ s.length + 1
  st : ∀ i x, r[i]? = some x → (isSt x ↔ s.length ≤ i)
structure Rel (K : PySem.W.Frag) (G0 H0 : Hp) (r : Rho) (s : St) (G H : Hp) : Prop where
  gg : Ex G0 G
  hh : Ex H0 H
  gh : Ex (um G) H
  gf : ∀ a, H a = none → G a = none
  nw : ∀ a o, G a = some o → G0 a = none → H0 a = none
  sl : ∀ (i : Nat) (x : Sl), r[i]? = some x → SlOk K H0 G H x (s[i]?.join)
  ds : ∀ (i j : Nat) (a : Addr), OwnAt r s i a → OwnAt r s j a → i = j
  ln : LenOk r s
section
variable {K : PySem.W.Frag} {G0 H0 G H G' H' : Hp} {r : Rho} {s : St}
theorem Rel.at (R : Rel K G0 H0 r s G H) {a : Addr} {o : HO} (h : G a = some o) (m : isMk o = false) : H a = some o := R.gh _ _ (um_of h m)
theorem Rel.sqt (R : Rel K G0 H0 r s G H) {a : Addr} {xs : List V} (h : SqT K G a xs) : SqT K H a xs := ex_t R.gh (um_t h)
theorem Rel.sql (R : Rel K G0 H0 r s G H) {a : Addr} {xs : List V} (h : SqL K G a xs) : SqL K H a xs := by
  rcases h with (h | ⟨o, h⟩) | h
  · exact .inl (.inl (R.at h rfl))
  · exact .inl (.inr ⟨o, R.at h rfl⟩)
  · exact .inr h
theorem LenOk.own {r : Rho} {s : St} (h : LenOk r s) {i : Nat} {x : Sl} (e : r[i]? = some x) (n : ¬ isSt x) : i < s.length := by
  apply Classical.byContradiction
  intro q
  exact n ((h.st i x e).mpr (by omega))
theorem LenOk.setr {r : Rho} {s : St} (h : LenOk r s) {i : Nat} (hi : i < s.length) (x : Sl) (hx : ¬ isSt x := by exact fun z => z) : LenOk (r.set i x) s := by
  refine ⟨by rw [List.length_set]; exact h.lo, by rw [List.length_set]; exact h.hi, fun j y e => ?_⟩
  by_cases z : i = j
  · subst z
    rw [List.getElem?_set_self (Nat.lt_of_lt_of_le hi h.lo)] at e
    cases e
    exact ⟨fun q => absurd q hx, fun q => by omega⟩
  · rw [List.getElem?_set_ne z] at e
    exact h.st j y e
theorem LenOk.set {r : Rho} {s : St} (h : LenOk r s) {i : Nat} (hi : i < s.length) (x : Sl) (o : Option V) (hx : ¬ isSt x := by exact fun z => z) : LenOk (r.set i x) (s.set i o) := by
  have q := h.setr hi x hx
  exact ⟨by rw [List.length_set (as := s)]; exact q.lo, by rw [List.length_set (as := s)]; exact q.hi, fun j y e => by rw [List.length_set]; exact q.st j y e⟩
theorem ObOk.mono {a : Addr} {ob : Ob} (eg : Ex G G') (eh : Ex H H') (h : ObOk K G H a ob) : ObOk K G' H' a ob := by
  cases ob with
  | ins c fs =>
    obtain ⟨dx, fvs, e1, e2, e3⟩ := h
    exact ⟨dx, fvs, eh _ _ e1, e2.mono eg, e3⟩
  | ls ds =>
    obtain ⟨xs, e1, e2⟩ := h
    exact ⟨xs, eh _ _ e1, e2.mono eg⟩
  | tab x q =>
    obtain ⟨e0, ps, e1, e2, e3⟩ := h
    refine ⟨e0, ps, eh _ _ e1, e2, fun pos cv hc => ?_⟩
    obtain ⟨c, q1, q2⟩ := e3 pos cv hc
    exact ⟨c, q1, eg _ _ q2⟩
theorem StOk.mono {w : Bool} {os : List Ob} (eg : Ex G G') (eh : Ex H H') (nm : ∀ a k, G' a = some (mrk k) → G a = some (mrk k)) (h : StOk K H0 G H w os) : StOk K H0 G' H' w os :=
  ⟨fun k ob e => by
    obtain ⟨a, e1, e2⟩ := h.at_ k ob e
    exact ⟨a, eg _ _ e1, e2.mono eg eh⟩, fun a b k ha hb => h.un a b k (nm a k ha) (nm b k hb), fun a k ha => h.lt a k (nm a k ha), fun a k ha => h.ch a k (nm a k ha)⟩
theorem StOk.off {w : Bool} {os : List Ob} {p : Addr} {o : HO} (hg : G p = none) (h : StOk K H0 G H w os) : StOk K H0 G (upd H p o) w os :=
  ⟨fun k ob e => by
    obtain ⟨a, e1, e2⟩ := h.at_ k ob e
    have na : a ≠ p := fun z => by rw [z, hg] at e1; cases e1
    refine ⟨a, e1, ?_⟩
    cases ob with
    | ins c fs =>
      obtain ⟨dx, fvs, q1, q2⟩ := e2
      exact ⟨dx, fvs, by rw [upd_ne na]; exact q1, q2⟩
    | ls ds =>
      obtain ⟨xs, q1, q2⟩ := e2
      exact ⟨xs, by rw [upd_ne na]; exact q1, q2⟩
    | tab x q =>
      obtain ⟨q0, ps, q1, q2⟩ := e2
      exact ⟨q0, ps, by rw [upd_ne na]; exact q1, q2⟩, h.un, h.lt, h.ch⟩
theorem own_in (R : Rel K G0 H0 r s G H) {i : Nat} {a : Addr} (h : OwnAt r s i a) : (∃ o, H a = some o) ∧ G a = none ∧ H0 a = none := by
  obtain ⟨h1, h2⟩ := h
  cases e : r[i]? with
  | none => rw [e] at h1; exact h1.elim
  | some x =>
    have q := R.sl i x e
    rw [h2] at q
    rw [e] at h1
    cases x with
    | un => exact h1.elim
    | im d => exact h1.elim
    | st w os => exact h1.elim
    | ol ds =>
      obtain ⟨b, xs, e1, e2, e3, e4, _⟩ := q
      have e5 : V.ref a = V.ref b := Option.some.inj e1
      cases e5
      exact ⟨⟨_, e2⟩, e3, e4⟩
    | od ds =>
      obtain ⟨b, xs, e1, e2, e3, e4, _⟩ := q
      have e5 : V.ref a = V.ref b := Option.some.inj e1
      cases e5
      exact ⟨⟨_, e2⟩, e3, e4⟩
structure Nw (G G' H : Hp) : Prop where
  st : ∀ a o, G' a = some o → G a = none → H a = none
  old : ∀ a o, G' a = some o → isMk o = true → G a = some o
theorem Nw.marks {G G' H : Hp} (n : Nw G G' H) : ∀ a k, G' a = some (mrk k) → G a = some (mrk k) := fun a k h => n.old a _ h rfl
theorem Rel.step (R : Rel K G0 H0 r s G H) (eg : Ex G G') (eh : Ex H H') (gh : Ex (um G') H') (nw : Nw G G' H) : Rel K G0 H0 r s G' H' where
  gg := R.gg.trans eg
  hh := R.hh.trans eh
  gh := gh
  gf := fun a h => by
    cases e : G' a with
    | none => rfl
    | some o =>
      cases m : isMk o with
      | false =>
        have z := gh _ _ (um_of e m)
        rw [h] at z
        cases z
      | true =>
        have z := R.gf a (eh.free h)
        rw [nw.old a o e m] at z
        cases z
  nw := fun a o h h0 => by
    cases e : G a with
    | some u => exact R.nw a u e h0
    | none => exact R.hh.free (nw.st a o h e)
  sl := fun i x hx => by
    have key : ∀ a o, H a = some o → G a = none → G' a = none := fun a o h1 h2 => by
      cases e : G' a with
      | none => rfl
      | some u =>
        have z := nw.st a u e h2
        rw [h1] at z
        cases z
    have q := R.sl i x hx
    cases x with
    | un => exact q
    | im d =>
      obtain ⟨v, e, h⟩ := q
      exact ⟨v, e, h.mono eg⟩
    | ol ds =>
      obtain ⟨a, xs, e1, e2, e3, e4, e5⟩ := q
      exact ⟨a, xs, e1, eh _ _ e2, key _ _ e2 e3, e4, e5.mono eg⟩
    | od ds =>
      obtain ⟨a, xs, e1, e2, e3, e4, e5⟩ := q
      exact ⟨a, xs, e1, eh _ _ e2, key _ _ e2 e3, e4, e5.mono eg⟩
    | st w os => exact StOk.mono eg eh nw.marks q
  ds := R.ds
  ln := R.ln
theorem Nw.new {G H : Hp} {p : Addr} {o : HO} [u : UnM o] (h : H p = none) : Nw G (upd G p o) H := by
  have m := u.h
  refine ⟨fun x u q n => ?_, fun x u q k => ?_⟩
  · by_cases z : x = p
    · rw [z]; exact h
    · rw [upd_ne z] at q
      rw [q] at n
      cases n
  · by_cases z : x = p
    · subst z
      rw [upd_same] at q
      cases q
      rw [m] at k
      cases k
    · rw [upd_ne z] at q
      exact q
theorem Nw.upd {G G' H : Hp} {p : Addr} {o : HO} (n : Nw G G' H) (h : H p = none) (m : isMk o = false) : Nw G (upd G' p o) H := by
  refine ⟨fun x u q k => ?_, fun x u q k => ?_⟩
  · by_cases z : x = p
    · rw [z]; exact h
    · rw [upd_ne z] at q
      exact n.st x u q k
  · by_cases z : x = p
    · subst z
      rw [upd_same] at q
      cases q
      rw [m] at k
      cases k
    · rw [upd_ne z] at q
      exact n.old x u q k
theorem Rel.new {p : Addr} {o : HO} [u : UnM o] (R : Rel K G0 H0 r s G H) (h : H p = none) : Rel K G0 H0 r s (upd G p o) (upd H p o) :=
  R.step (ex_new (R.gf p h)) (ex_new h) (by rw [um_upd u.h]; exact ex_upd R.gh) (Nw.new h)
theorem Rel.gf_upd (R : Rel K G0 H0 r s G H) {a b : Addr} {o : HO} (q : upd H a o b = none) : G b = none := by
  by_cases z : b = a
  · rw [z, upd_same] at q; cases q
  · rw [upd_ne z] at q; exact R.gf b q
theorem Rel.lay {p : Addr} {o : HO} (R : Rel K G0 H0 r s G H) (h : H p = none) : Rel K G0 H0 r s G (upd H p o) :=
  R.step (Same.refl _) (ex_new h) (ex_into R.gh (um_none (R.gf p h))) ⟨fun a u q n => (by rw [q] at n; cases n), fun a u q _ => q⟩
end
end PL
end
section
namespace PL
open PySem PySem.Spec PyProof.Rows L2
def RpE (K : PySem.W.Frag) (G : Hp) (s : St) (v : V) : D → Prop
  | .own i => s[i]? = some (some v)
  | .obj k => RpO K G v (.obj k)
  | .tpo ds => RpO K G v (.tpo ds)
  | .non => Rp K G v .non
  | .bl b => Rp K G v (.bl b)
  | .int b => Rp K G v (.int b)
  | .str b => Rp K G v (.str b)
  | .tup b => Rp K G v (.tup b)
  | .lst b => Rp K G v (.lst b)
  | .dic b => Rp K G v (.dic b)
  | .scr b => Rp K G v (.scr b)
  | .tpn b => Rp K G v (.tpn b)
  | .exc b => Rp K G v (.exc b)
  | .fn b => Rp K G v (.fn b)
def noOwn : D → Bool
  | .own _ => false
  | .obj _ => false
  | .tpo _ => false
  | _ => true
theorem RpE.im {K : PySem.W.Frag} {G : Hp} {s : St} {v : V} {d : D} (h : noOwn d = true) (r : RpE K G s v d) : Rp K G v d := by
  cases d with
  | own i => cases h
  | obj i => cases h
  | tpo i => cases h
  | _ => exact r
theorem Rp.e {K : PySem.W.Frag} {G : Hp} {s : St} {v : V} {d : D} (r : Rp K G v d) : RpE K G s v d := by
  cases d with
  | own i => cases r
  | obj i => cases r
  | tpo i => cases r
  | _ => exact r
theorem RpO.e {K : PySem.W.Frag} {G : Hp} {s : St} {v : V} {d : D} (r : RpO K G v d) : RpE K G s v d := by
  cases r with
  | pure r => exact r.e
  | obj h => exact RpO.obj h
  | tpo h q => exact RpO.tpo h q
theorem Rp.noOwn {K : PySem.W.Frag} {G : Hp} {v : V} {d : D} (r : Rp K G v d) : noOwn d = true := by
  cases r <;> rfl
theorem RpE.mono {K : PySem.W.Frag} {G G' : Hp} {s : St} {v : V} {d : D} (e : Ex G G') (r : RpE K G s v d) : RpE K G' s v d := by
  cases d with
  | own i => exact r
  | obj i => exact RpO.mono e r
  | tpo i => exact RpO.mono e r
  | _ => exact Rp.mono e r
def EZ : WX := fun _ _ _ _ => False
def clsV (mg : Str → Option Value) (c : Str) : Value := (mg c).getD .none
theorem Nw.refl (G H : Hp) : Nw G G H := ⟨fun a o h n => (by rw [h] at n; cases n), fun _ _ h _ => h⟩
theorem Nw.trans {G G1 G2 H H1 : Hp} (a : Nw G G1 H) (b : Nw G1 G2 H1) (e : Ex H H1) : Nw G G2 H := by
  refine ⟨fun x o h n => ?_, fun x o h m => a.old x o (b.old x o h m) m⟩
  cases q : G1 x with
  | some u => exact a.st x u q n
  | none => exact e.free (b.st x o h q)
structure Stt where
  G0 : Hp
  H0 : Hp
  r : Rho
  G : Hp
section
variable (K : PySem.W.Frag) (mg : Str → Option Value) (E : WX)
abbrev Rl (T : Stt) (s : St) (H : Hp) : Prop := Rel K T.G0 T.H0 T.r s T.G H
def KE {α : Type} (T : Stt) (s : St) (H : Hp) (P : α → Hp → Hp → Prop) : R α → Prop
  | .ok d => ∀ G' H', Ex T.G G' → Ex H H' → Nw T.G G' H → Rel K T.G0 T.H0 T.r s G' H' → P d G' H'
  | .err c => ∀ H', Ex T.H0 H' → Ex H H' → E (clsV mg c) none s H'
  | .stuck => False
def tE (f : Rho → R D) : TE := fun s H Q => ∃ T, Rl K T s H ∧ KE K mg E T s H (fun d G' H' => ∀ v, RpE K G' s v d → Q v H') (f T.r)
def tA (f : Rho → R (List D)) : TA := fun s H Q => ∃ T, Rl K T s H ∧ KE K mg E T s H (fun ds G' H' => ∀ vs, RpA K G' vs ds → Q vs H') (f T.r)
def tT (f : Rho → R Bool) : TT := fun s H Q => ∃ T, Rl K T s H ∧ KE K mg E T s H (fun b _ H' => Q b H') (f T.r)
def tN (f : Rho → R (List D)) : TE := fun s H Q => ∃ T, Rl K T s H ∧ KE K mg E T s H (fun ds G' H' => ∀ p xs, H p = none → H' p = some (.lst xs) → G' p = none → RpA K G' xs ds → Q (.ref p) H') (f T.r)
end
def EV (X : Cx) (E : WX) (e : Expr) (f : Rho → R D) : Prop := PE X e (tE X.K X.mg E f)
def EA (X : Cx) (E : WX) (e : List Expr) (f : Rho → R (List D)) : Prop := PA X e (tA X.K X.mg E f)
def ET (X : Cx) (E : WX) (e : Expr) (f : Rho → R Bool) : Prop := PT X e (tT X.K X.mg E f)
def EW (X : Cx) (E : WX) (e : Expr) (f : Rho → R Bool) : Prop := PW X e (tT X.K X.mg E f)
def EN (X : Cx) (E : WX) (e : Expr) (f : Rho → R (List D)) : Prop := PE X e (tN X.K X.mg E f)
theorem pe_imp {X : Cx} {e : Expr} {t t' : TE} (h : PE X e t) (i : ∀ s H Q, t' s H Q → t s H Q) : PE X e t' := ⟨fun pins s σ H Q I q => h.run pins s σ H Q I (i _ _ _ q)⟩
theorem pe_impL {X : Cx} {e : Expr} {t t' : TE} (h : PE X e t) (i : ∀ s H Q, s.length = X.N.length → t' s H Q → t s H Q) : PE X e t' := ⟨fun pins s σ H Q I q => h.run pins s σ H Q I (i _ _ _ I.len q)⟩
theorem pa_imp {X : Cx} {e : List Expr} {t t' : TA} (h : PA X e t) (i : ∀ s H Q, t' s H Q → t s H Q) : PA X e t' := ⟨fun pos pins s σ H Q I q => h.run pos pins s σ H Q I (i _ _ _ q)⟩
theorem pt_imp {X : Cx} {e : Expr} {t t' : TT} (h : PT X e t) (i : ∀ s H Q, t' s H Q → t s H Q) : PT X e t' := ⟨fun pins s σ H Q I q => h.run pins s σ H Q I (i _ _ _ q)⟩
theorem pw_imp {X : Cx} {e : Expr} {t t' : TT} (h : PW X e t) (i : ∀ s H Q, t' s H Q → t s H Q) : PW X e t' := ⟨fun wh pins s σ H Q I q => h.run wh pins s σ H Q I (i _ _ _ q)⟩
section
variable {K : PySem.W.Frag} {mg : Str → Option Value} {E : WX}
theorem KE.bndN {α β : Type} {T : Stt} {s : St} {H : Hp} {P : β → Hp → Hp → Prop} {P' : α → Hp → Hp → Prop} {x : R α} {k : α → R β}
    (h : KE K mg E T s H P (x.bnd k)) (hk : ∀ d G' H', x = .ok d → Ex T.G G' → Ex H H' → Nw T.G G' H → Rel K T.G0 T.H0 T.r s G' H' → KE K mg E { T with G := G' } s H' P (k d) → P' d G' H') : KE K mg E T s H P' x := by
  cases x with
  | ok d =>
    intro G' H' eg eh nw R'
    refine hk d G' H' rfl eg eh nw R' ?_
    have h2 : KE K mg E T s H P (k d) := h
    cases q : k d with
    | ok b =>
      rw [q] at h2
      intro G2 H2 eg2 eh2 nw2 R2
      exact h2 G2 H2 (eg.trans eg2) (eh.trans eh2) (nw.trans nw2 eh) R2
    | err c =>
      rw [q] at h2
      exact fun H2 e0 e2 => h2 H2 e0 (eh.trans e2)
    | stuck =>
      rw [q] at h2
      exact h2
  | err c => exact h
  | stuck => exact h
theorem KE.bnd {α β : Type} {T : Stt} {s : St} {H : Hp} {P : β → Hp → Hp → Prop} {P' : α → Hp → Hp → Prop} {x : R α} {k : α → R β}
    (h : KE K mg E T s H P (x.bnd k)) (hk : ∀ d G' H', x = .ok d → Ex T.G G' → Ex H H' → Rel K T.G0 T.H0 T.r s G' H' → KE K mg E { T with G := G' } s H' P (k d) → P' d G' H') : KE K mg E T s H P' x :=
  KE.bndN h fun d G' H' e eg eh _ R' q => hk d G' H' e eg eh R' q
theorem KE.here {α : Type} {T : Stt} {s : St} {H : Hp} {P : α → Hp → Hp → Prop} {d : α} (h : KE K mg E T s H P (.ok d)) (R : Rl K T s H) : P d T.G H := h T.G H (Same.refl _) (Same.refl _) (Nw.refl _ _) R
theorem KE.imp {α : Type} {T : Stt} {s : St} {H : Hp} {P P' : α → Hp → Hp → Prop} {x : R α} (h : KE K mg E T s H P x) (i : ∀ d G' H', Ex T.G G' → Ex H H' → Rel K T.G0 T.H0 T.r s G' H' → P d G' H' → P' d G' H') : KE K mg E T s H P' x := by
  cases x with
  | ok d => exact fun G' H' a b n c => i d G' H' a b c (h G' H' a b n c)
  | err c => exact h
  | stuck => exact h
theorem tE.of {f : Rho → R D} {s : St} {H : Hp} {Q : VK} {T : Stt} (R : Rl K T s H) (h : KE K mg E T s H (fun d G' H' => ∀ v, RpE K G' s v d → Q v H') (f T.r)) : tE K mg E f s H Q := ⟨T, R, h⟩
end
def fVar (i : Nat) (r : Rho) : R D := match r[i]? with
  | some (.im d) => .ok d
  | some (.ol _) => .ok (.own i)
  | some (.od _) => .ok (.own i)
  | _ => .stuck
section
variable {X : Cx} {E : WX}
theorem ev_var (i : Nat) {x : Str} {pos : Pos} (hN : X.N[i]? = some x := by rfl) (hv : Vis X.env.scope x := by first | exact Or.inl rfl | exact Or.inr (Or.inl rfl) | exact Or.inr (Or.inr rfl)) (hd : (x == ("__debug__" : Str)) = false := by decide)
    (hcd : (x == ("__classdict__" : Str)) = false := by decide) : EV X E (.Name x pos) (fVar i) := by
  refine pe_imp (pe_var (i := i) hN hv hd hcd) fun s H Q ⟨T, R, h⟩ => ?_
  unfold fVar at h
  cases e : T.r[i]? with
  | none => rw [e] at h; exact h.elim
  | some x =>
    rw [e] at h
    have q := R.sl i x e
    cases x with
    | un => exact h.elim
    | im d =>
      obtain ⟨v, e1, e2⟩ := q
      have e3 : s[i]? = some (some v) := by
        cases e4 : s[i]? with
        | none => rw [e4] at e1; cases e1
        | some o => rw [e4] at e1; exact congrArg some e1
      exact ⟨v, e3, h.here R v e2.e⟩
    | ol ds =>
      obtain ⟨a, xs, e1, _⟩ := q
      have e3 : s[i]? = some (some (.ref a)) := by
        cases e4 : s[i]? with
        | none => rw [e4] at e1; cases e1
        | some o => rw [e4] at e1; exact congrArg some e1
      exact ⟨_, e3, h.here R _ e3⟩
    | od ds =>
      obtain ⟨a, xs, e1, _⟩ := q
      have e3 : s[i]? = some (some (.ref a)) := by
        cases e4 : s[i]? with
        | none => rw [e4] at e1; cases e1
        | some o => rw [e4] at e1; exact congrArg some e1
      exact ⟨_, e3, h.here R _ e3⟩
    | st w os => exact h.elim
theorem ev_int {i j pos} : EV X E (.Constant (.int i) j pos) (fun _ => .ok (.int i)) := pe_imp pe_int fun s H Q ⟨T, R, h⟩ => h.here R _ (Rp.int i)
theorem ev_bl {i j pos} : EV X E (.Constant (.bool i) j pos) (fun _ => .ok (.bl i)) := pe_imp pe_bl fun s H Q ⟨T, R, h⟩ => h.here R _ (Rp.bl i)
theorem ev_non {j pos} : EV X E (.Constant .none j pos) (fun _ => .ok .non) := pe_imp pe_non fun s H Q ⟨T, R, h⟩ => h.here R _ Rp.non
theorem ev_str {x j pos} : EV X E (.Constant (.str x) j pos) (fun _ => .ok (.str x)) := pe_imp pe_str fun s H Q ⟨T, R, h⟩ => h.here R _ (Rp.str x)
def Kon (K : PySem.W.Frag) (mg : Str → Option Value) (x : Str) (d : D) : Prop := ∃ u v, mg x = some u ∧ RelV v u ∧ ∀ G, Rp K G v d
theorem ev_glob {x : Str} {d : D} {pos : Pos} (h : Kon X.K X.mg x d) (hg : Gl X x) (hd : (x == ("__debug__" : Str)) = false := by decide) : EV X E (.Name x pos) (fun _ => .ok d) := by
  obtain ⟨u, v, hm, rv, hv⟩ := h
  exact pe_imp (pe_glob hg hm rv hd) fun s H Q ⟨T, R, h⟩ => h.here R _ (hv _).e
end
def OpS (K : PySem.W.Frag) (r : R2) (g : Rho → D → D → R D) : Prop := ∀ (mg : Str → Option Value) (E : WX) (T : Stt) (s : St) (H : Hp) (x y : V) (dx dy : D) (Q : VK), Rl K T s H → RpE K T.G s x dx → RpE K T.G s y dy →
  KE K mg E T s H (fun d G' H' => ∀ v, RpE K G' s v d → Q v H') (g T.r dx dy) → r x y H Q
theorem OpS.or {K : PySem.W.Frag} {r r' : R2} {g g' : Rho → D → D → R D} (sel : D → D → Bool) (h : OpS K r g) (h' : OpS K r' g') : OpS K (fun x y H Q => r x y H Q ∨ r' x y H Q) (fun rr x y => if sel x y then g rr x y else g' rr x y) := by
  intro mg E T s H x y dx dy Q R rx ry q
  cases e : sel dx dy with
  | true => exact .inl (h mg E T s H x y dx dy Q R rx ry (by simpa [e] using q))
  | false => exact .inr (h' mg E T s H x y dx dy Q R rx ry (by simpa [e] using q))
def fBin (g : Rho → D → D → R D) (fa fb : Rho → R D) (r : Rho) : R D := (fa r).bnd fun x => (fb r).bnd fun y => g r x y
section
variable {X : Cx} {E : WX} {a b c : Expr} {fa fb fc : Rho → R D} {pos : Pos}
theorem op_red {K : PySem.W.Frag} {mg : Str → Option Value} {r : R2} {g : Rho → D → D → R D} (hg : OpS K r g) {s : St} {H : Hp} {Q : VK} (h : tE K mg E (fBin g fa fb) s H Q) : tOp r (tE K mg E fa) (tE K mg E fb) s H Q := by
  obtain ⟨T, R, h⟩ := h
  refine ⟨T, R, KE.bnd h fun d G1 H1 _ eg eh R1 h1 v rv => ?_⟩
  refine ⟨{ T with G := G1 }, R1, KE.bnd h1 fun d2 G2 H2 _ eg2 eh2 R2 h2 v2 rv2 => ?_⟩
  exact hg mg E { T with G := G2 } s H2 v v2 d d2 Q R2 (rv.mono eg2) rv2 h2
theorem ev_op {op : Operator} {r : R2} {g : Rho → D → D → R D} (ho : OpR X (binaryOp op) r) (hg : OpS X.K r g) (ha : EV X E a fa) (hb : EV X E b fb) : EV X E (.BinOp a op b pos) (fBin g fa fb) :=
  pe_imp (pe_op ho ha hb) fun s H Q h => op_red hg h
theorem ev_cmp {op : CmpOp} {r : R2} {g : Rho → D → D → R D} (ho : OpR X (compareOp op) r) (hg : OpS X.K r g) (ha : EV X E a fa) (hb : EV X E b fb) (hm : behindInMarks op b = false) : EV X E (.Compare a [op] [b] pos) (fBin g fa fb) :=
  pe_imp (pe_cmpR ho ha hb hm) fun s H Q h => op_red hg h
def boolOf : D → R Bool
  | .bl b => .ok b
  | _ => .stuck
def fTest (f : Rho → R D) (r : Rho) : R Bool := (f r).bnd boolOf
theorem tE_test {K : PySem.W.Frag} {mg : Str → Option Value} {f : Rho → R D} {s : St} {H : Hp} {Q : Bool → Hp → Prop} (h : tT K mg E (fTest f) s H Q) : tE K mg E f s H (fun x H' => ∃ k, x = .bl k ∧ Q k H') := by
  obtain ⟨T, R, h⟩ := h
  refine ⟨T, R, KE.bnd h fun d G1 H1 _ eg eh R1 h1 v rv => ?_⟩
  cases d with
  | bl b =>
    cases (show Rp K G1 v (.bl b) from rv)
    exact ⟨b, rfl, KE.here h1 R1⟩
  | _ => exact h1.elim
theorem et_cmp {op : CmpOp} {r : R2} {g : Rho → D → D → R D} (ho : OpR X (compareOp op) r) (hg : OpS X.K r g) (ha : EV X E a fa) (hb : EV X E b fb) (hm : behindInMarks op b = false) : ET X E (.Compare a [op] [b] pos) (fTest (fBin g fa fb)) :=
  pt_imp (pt_cmpR ho ha hb hm) fun s H Q h => op_red hg (tE_test h)
theorem et_val (ha : EV X E a fa) (he : ∀ whole, isTrue a X.env whole = (do let v ← whole; standAt a.pos; holding [v] (truthy v)) := by intro _; rfl) : ET X E a (fTest fa) :=
  pt_imp (pt_val ha he) fun s H Q h => tE_test h
def fChain (g g' : Rho → D → D → R D) (fa fb fc : Rho → R D) (r : Rho) : R D := (fa r).bnd fun x => (fb r).bnd fun y => (g r x y).bnd fun z => (boolOf z).bnd fun k => if k then (fc r).bnd fun w => g' r y w else .ok (.bl false)
theorem chain_red {K : PySem.W.Frag} {mg : Str → Option Value} {r r' : R2} {g g' : Rho → D → D → R D} (hg : OpS K r g) (hg' : OpS K r' g') {s : St} {H : Hp} {Q : VK} (h : tE K mg E (fChain g g' fa fb fc) s H Q) : tChain r r' (tE K mg E fa) (tE K mg E fb) (tE K mg E fc) s H Q := by
  obtain ⟨T, R, h⟩ := h
  refine ⟨T, R, KE.bnd h fun d G1 H1 _ eg eh R1 h1 v rv => ?_⟩
  refine ⟨{ T with G := G1 }, R1, KE.bnd h1 fun d2 G2 H2 _ eg2 eh2 R2 h2 v2 rv2 => ?_⟩
  refine hg mg E { T with G := G2 } s H2 v v2 d d2 _ R2 (rv.mono eg2) rv2 (KE.bnd h2 fun d3 G3 H3 _ eg3 eh3 R3 h3 v3 rv3 => ?_)
  cases d3 with
  | bl k =>
    cases (show Rp K G3 v3 (.bl k) from rv3)
    refine ⟨k, rfl, ?_⟩
    cases k with
    | false => exact KE.here h3 R3 _ (Rp.bl false)
    | true =>
      show tE K mg E fc s H3 _
      refine ⟨{ T with G := G3 }, R3, KE.bnd (show KE K mg E { T with G := G3 } s H3 _ ((fc T.r).bnd fun w => g' T.r d2 w) from h3) fun d4 G4 H4 _ eg4 eh4 R4 h4 v4 rv4 => ?_⟩
      exact hg' mg E { T with G := G4 } s H4 v2 v4 d2 d4 Q R4 ((rv2.mono eg3).mono eg4) rv4 h4
  | _ => exact h3.elim
theorem ev_chain {op op' : CmpOp} {r r' : R2} {g g' : Rho → D → D → R D} (ho : OpR X (compareOp op) r) (hg : OpS X.K r g) (ho' : OpR X (compareOp op') r') (hg' : OpS X.K r' g') (ha : EV X E a fa) (hb : EV X E b fb) (hc : EV X E c fc)
    (hm : lastMarks [op, op'] [b, c] = false := by with_unfolding_all rfl) : EV X E (.Compare a [op, op'] [b, c] pos) (fChain g g' fa fb fc) :=
  pe_imp (pe_chain ho ho' ha hb hc hm) fun s H Q h => chain_red hg hg' h
theorem et_chain {op op' : CmpOp} {r r' : R2} {g g' : Rho → D → D → R D} (ho : OpR X (compareOp op) r) (hg : OpS X.K r g) (ho' : OpR X (compareOp op') r') (hg' : OpS X.K r' g') (ha : EV X E a fa) (hb : EV X E b fb) (hc : EV X E c fc)
    (hm : lastMarks [op, op'] [b, c] = false := by with_unfolding_all rfl) : ET X E (.Compare a [op, op'] [b, c] pos) (fTest (fChain g g' fa fb fc)) :=
  pt_imp (pt_chain ho ho' ha hb hc hm) fun s H Q h => chain_red hg hg' (tE_test h)
variable {ga gb : Rho → R Bool} {rest : List Expr}
def fAnd (ga gb : Rho → R Bool) (r : Rho) : R Bool := (ga r).bnd fun x => if x then gb r else .ok false
def fOr (ga gb : Rho → R Bool) (r : Rho) : R Bool := (ga r).bnd fun x => if x then .ok true else gb r
def fNot (ga : Rho → R Bool) (r : Rho) : R Bool := (ga r).bnd fun x => .ok (!x)
theorem ew_and1 (ha : ET X E a ga) : EW X E (.BoolOp .And [a] pos) ga := pw_and1 ha
theorem ew_or1 (ha : ET X E a ga) : EW X E (.BoolOp .Or [a] pos) ga := pw_or1 ha
theorem ew_and (ha : ET X E a ga) (hb : EW X E (.BoolOp .And (b :: rest) pos) gb) : EW X E (.BoolOp .And (a :: b :: rest) pos) (fAnd ga gb) :=
  pw_imp (pw_and ha hb) fun s H Q ⟨T, R, h⟩ => ⟨T, R, KE.bnd h fun d G1 H1 _ eg eh R1 h1 => by
    cases d with
    | true => exact ⟨{ T with G := G1 }, R1, h1⟩
    | false => exact KE.here h1 R1⟩
theorem ew_or (ha : ET X E a ga) (hb : EW X E (.BoolOp .Or (b :: rest) pos) gb) : EW X E (.BoolOp .Or (a :: b :: rest) pos) (fOr ga gb) :=
  pw_imp (pw_or ha hb) fun s H Q ⟨T, R, h⟩ => ⟨T, R, KE.bnd h fun d G1 H1 _ eg eh R1 h1 => by
    cases d with
    | false => exact ⟨{ T with G := G1 }, R1, h1⟩
    | true => exact KE.here h1 R1⟩
theorem EW.et (h : EW X E a ga) : ET X E a ga := PW.pt h
theorem et_not (ha : ET X E a ga) : ET X E (.UnaryOp .Not a pos) (fNot ga) :=
  pt_imp (pt_not ha) fun s H Q ⟨T, R, h⟩ => ⟨T, R, KE.bnd h fun d G1 H1 _ eg eh R1 h1 => KE.here h1 R1⟩
def fAndV (fa fb : Rho → R D) (r : Rho) : R D := (fa r).bnd fun x => (boolOf x).bnd fun k => if k then fb r else .ok (.bl false)
def fOrV (fa fb : Rho → R D) (r : Rho) : R D := (fa r).bnd fun x => (boolOf x).bnd fun k => if k then .ok (.bl true) else fb r
def fNotV (fa : Rho → R D) (r : Rho) : R D := (fa r).bnd fun x => (boolOf x).bnd fun k => .ok (.bl (!k))
theorem ev_one {op} (h : EV X E a fa) : EV X E (.BoolOp op [a] pos) fa := pe_one h
theorem ev_and (ha : EV X E a fa) (hb : EV X E (.BoolOp .And (b :: rest) pos) fb) : EV X E (.BoolOp .And (a :: b :: rest) pos) (fAndV fa fb) :=
  pe_imp (pe_and ha hb) fun s H Q ⟨T, R, h⟩ => ⟨T, R, KE.bnd h fun d G1 H1 _ eg eh R1 h1 v rv => by
    cases d with
    | bl k =>
      cases (show Rp X.K G1 v (.bl k) from rv)
      refine ⟨k, rfl, ?_⟩
      cases k with
      | true => exact ⟨{ T with G := G1 }, R1, h1⟩
      | false => exact KE.here h1 R1 _ (Rp.bl false)
    | _ => exact h1.elim⟩
theorem ev_not (ha : EV X E a fa) : EV X E (.UnaryOp .Not a pos) (fNotV fa) :=
  pe_imp (pe_not ha) fun s H Q ⟨T, R, h⟩ => ⟨T, R, KE.bnd h fun d G1 H1 _ eg eh R1 h1 v rv => by
    cases d with
    | bl k =>
      cases (show Rp X.K G1 v (.bl k) from rv)
      exact ⟨k, rfl, KE.here h1 R1 _ (Rp.bl (!k))⟩
    | _ => exact h1.elim⟩
def fIf (g : Rho → R Bool) (fa fb : Rho → R D) (r : Rho) : R D := (g r).bnd fun k => if k then fa r else fb r
theorem ev_if (hc : ET X E c ga) (ha : EV X E a fa) (hb : EV X E b fb) : EV X E (.IfExp c a b pos) (fIf ga fa fb) :=
  pe_imp (pe_ifExp hc ha hb) fun s H Q ⟨T, R, h⟩ => ⟨T, R, KE.bnd h fun d G1 H1 _ eg eh R1 h1 => by
    cases d with
    | true => exact ⟨{ T with G := G1 }, R1, h1⟩
    | false => exact ⟨{ T with G := G1 }, R1, h1⟩⟩
variable {es : List Expr} {fs : Rho → R (List D)}
def fNil (_ : Rho) : R (List D) := .ok []
def imD (d : D) : R D := if noOwn d then .ok d else .stuck
def fCons (f : Rho → R D) (fs : Rho → R (List D)) (r : Rho) : R (List D) := (f r).bnd fun d => (imD d).bnd fun d => (fs r).bnd fun ds => .ok (d :: ds)
theorem ea_nil : EA X E [] fNil := pa_imp pa_nil fun s H Q ⟨T, R, h⟩ => h.here R [] .nil
theorem imD_ok {d d' : D} (h : imD d = .ok d') : d' = d ∧ noOwn d = true := by
  unfold imD at h
  cases e : noOwn d with
  | true => rw [e] at h; exact ⟨(R.ok.inj h).symm, rfl⟩
  | false => rw [e] at h; cases h
end
end PL
end
section
namespace PL
open PySem PySem.Spec PyProof.Rows L2
section
variable {X : Cx} {E : WX} {a b c : Expr} {fa fb fc : Rho → R D} {pos : Pos} {es : List Expr} {fs : Rho → R (List D)} {K : PySem.W.Frag}
theorem ea_cons (ha : EV X E a fa) (hr : EA X E es fs) (hs : starEach (a :: es) X.env = (false, eval a X.env) :: starEach es X.env := by rfl) : EA X E (a :: es) (fCons fa fs) :=
  pa_imp (pa_cons ha hr hs) fun s H Q ⟨T, R, h⟩ => ⟨T, R, KE.bnd h fun d G1 H1 _ eg eh R1 h1 v rv => by
    unfold imD at h1
    cases e : noOwn d with
    | false => rw [e] at h1; exact h1.elim
    | true =>
      rw [e] at h1
      refine ⟨{ T with G := G1 }, R1, KE.bnd (show KE X.K X.mg E { T with G := G1 } s H1 _ ((fs T.r).bnd fun ds => .ok (d :: ds)) from h1) fun ds G2 H2 _ eg2 eh2 R2 h2 vs rvs => ?_⟩
      exact KE.here h2 R2 _ (.cons ((RpE.im e rv).mono eg2) rvs)⟩
theorem KE.new {mg : Str → Option Value} {T : Stt} {s : St} {H : Hp} {P : D → Hp → Hp → Prop} {d : D} (h : KE K mg E T s H P (.ok d)) (R : Rl K T s H) {p : Addr} {o : HO} [UnM o] (hp : H p = none) : P d (upd T.G p o) (upd H p o) :=
  h _ _ (ex_new (R.gf _ hp)) (ex_new hp) (Nw.new hp) (R.new hp)
def szD (ds : List D) : Bool := decide (ds.length ≤ sizeLine)
def fTup (fs : Rho → R (List D)) (r : Rho) : R D := (fs r).bnd fun ds => if szD ds then .ok (.tup ds) else .stuck
theorem ev_tup {x1} (h : EA X E es fs) : EV X E (.Tuple es x1 pos) (fTup fs) :=
  pe_imp (pe_tup h) fun s H Q ⟨T, R, h⟩ => ⟨T, R, KE.bnd h fun ds G1 H1 _ eg eh R1 h1 vs rvs => by
    cases e : szD ds with
    | false => rw [e] at h1; exact h1.elim
    | true =>
      rw [e] at h1
      have ez : vs.length ≤ sizeLine := by rw [rvs.length]; exact of_decide_eq_true e
      exact ⟨ez, fun p hp => KE.new (show KE X.K X.mg E { T with G := G1 } s H1 _ (.ok (.tup ds)) from h1) R1 hp _ (Rp.tup (SqT.of upd_same) (rvs.mono (ex_new (R1.gf _ hp))))⟩⟩
theorem KE.lay {mg : Str → Option Value} {T : Stt} {s : St} {H : Hp} {P : List D → Hp → Hp → Prop} {d : List D} (h : KE K mg E T s H P (.ok d)) (R : Rl K T s H) {p : Addr} {o : HO} (hp : H p = none) : P d T.G (upd H p o) :=
  h _ _ (Same.refl _) (ex_new hp) (Nw.refl _ _) (R.lay hp)
def fLst (fs : Rho → R (List D)) (r : Rho) : R (List D) := (fs r).bnd fun ds => if szD ds then .ok ds else .stuck
theorem en_lst (h : EA X E es fs) : EN X E (.List es pos) (fLst fs) :=
  pe_imp (pe_lst h) fun s H Q ⟨T, R, h⟩ => ⟨T, R, KE.bnd h fun ds G1 H1 _ eg eh R1 h1 vs rvs => by
    cases e : szD ds with
    | false => rw [e] at h1; exact h1.elim
    | true =>
      rw [e] at h1
      have ez : vs.length ≤ sizeLine := by rw [rvs.length]; exact of_decide_eq_true e
      exact ⟨ez, fun p hp => KE.lay (show KE X.K X.mg E { T with G := G1 } s H1 _ (.ok ds) from h1) R1 hp p vs (eh.free hp) upd_same (R1.gf _ hp) rvs⟩⟩
theorem Rel.freeze {G0 H0 G H : Hp} {r : Rho} {s : St} {p : Addr} {o : HO} [um' : UnM o] (R : Rel K G0 H0 r s G H) (h : H p = some o) (h0 : H0 p = none) (hg : G p = none) (hn : ∀ i, ¬ OwnAt r s i p) : Rel K G0 H0 r s (upd G p o) H where
  gg := R.gg.trans (ex_new hg)
  hh := R.hh
  gh := fun a u q => by
    rw [um_upd um'.h] at q
    by_cases z : a = p
    · subst z
      rw [upd_same] at q
      rw [h, ← q]
    · rw [upd_ne z] at q
      exact R.gh _ _ q
  gf := fun a q => by
    by_cases z : a = p
    · rw [z, h] at q; cases q
    · rw [upd_ne z]
      exact R.gf a q
  nw := fun a u q n => by
    by_cases z : a = p
    · rw [z]; exact h0
    · rw [upd_ne z] at q
      exact R.nw a u q n
  sl := fun i x hx => by
    have q := R.sl i x hx
    have ge : Ex G (upd G p o) := ex_new hg
    cases x with
    | un => exact q
    | im d =>
      obtain ⟨v, e, z⟩ := q
      exact ⟨v, e, z.mono ge⟩
    | ol ds =>
      obtain ⟨a, xs, e1, e2, e3, e4, e5⟩ := q
      have na : a ≠ p := fun z => by
        subst z
        refine hn i ⟨?_, ?_⟩
        · rw [hx]; trivial
        · cases e6 : s[i]? with
          | none => rw [e6] at e1; cases e1
          | some w => rw [e6] at e1; exact congrArg some e1
      exact ⟨a, xs, e1, e2, by rw [upd_ne na]; exact e3, e4, e5.mono ge⟩
    | od ds =>
      obtain ⟨a, xs, e1, e2, e3, e4, e5⟩ := q
      have na : a ≠ p := fun z => by
        subst z
        refine hn i ⟨?_, ?_⟩
        · rw [hx]; trivial
        · cases e6 : s[i]? with
          | none => rw [e6] at e1; cases e1
          | some w => rw [e6] at e1; exact congrArg some e1
      exact ⟨a, xs, e1, e2, by rw [upd_ne na]; exact e3, e4, e5.mono ge⟩
    | st w os => exact StOk.mono ge (Same.refl _) (fun a k q => by
        by_cases z : a = p
        · subst z
          rw [upd_same] at q
          cases q
          cases um'.h
        · rw [upd_ne z] at q
          exact q) q
  ds := R.ds
  ln := R.ln
def fL (fs : Rho → R (List D)) (r : Rho) : R D := (fs r).bnd fun ds => .ok (.lst ds)
theorem tN_tE {mg : Str → Option Value} {s : St} {H : Hp} {Q : VK} (h : tE K mg E (fL fs) s H Q) : tN K mg E fs s H Q := by
  obtain ⟨T, R, h⟩ := h
  refine ⟨T, R, ?_⟩
  unfold fL at h
  cases e : fs T.r with
  | ok ds =>
    rw [e] at h
    intro G1 H1 eg eh nw R1 p xs hp h2 hg hr
    have hn : ∀ i, ¬ OwnAt T.r s i p := fun i o => by
      obtain ⟨⟨u, e⟩, _⟩ := own_in R o
      rw [e] at hp
      cases hp
    have h3 : KE K mg E T s H (fun d G' H' => ∀ v, RpE K G' s v d → Q v H') (.ok (D.lst ds)) := h
    exact h3 (upd G1 p (.lst xs)) H1 (eg.trans (ex_new hg)) eh (nw.upd hp rfl) (R1.freeze h2 (R.hh.free hp) hg hn) _ (Rp.lst upd_same (hr.mono (ex_new hg)))
  | err c => rw [e] at h; exact h
  | stuck => rw [e] at h; exact h
theorem EN.ev (h : EN X E a fs) : EV X E a (fL fs) := pe_imp h fun s H Q q => tN_tE q
def stOf (r : Rho) : List Ob := match r.getLast? with
  | some (.st _ os) => os
  | _ => []
theorem obj_at {K : PySem.W.Frag} {G0 H0 G H : Hp} {r : Rho} {s : St} (R : Rel K G0 H0 r s G H) {k : Nat} {ob : Ob} {a : Addr} (h : (stOf r)[k]? = some ob) (ha : G a = some (mrk k)) : ObOk K G H a ob := by
  unfold stOf at h
  cases e : r.getLast? with
  | none => rw [e] at h; simp at h
  | some x =>
    rw [e] at h
    cases x with
    | st w os =>
      rw [List.getLast?_eq_getElem?] at e
      have S := (show StOk K H0 G H w os from R.sl _ _ e)
      obtain ⟨b, hb, q⟩ := S.at_ k ob h
      rw [S.un a b k ha hb]
      exact q
    | _ => simp at h
def viewD (r : Rho) : D → Option (List D)
  | .tup ds => some ds
  | .lst ds => some ds
  | .scr ns => some (ns.map .int)
  | .obj k => match (stOf r)[k]? with
    | some (.ls ds) => some ds
    | _ => none
  | .own i => match r[i]? with
    | some (.ol ds) => some ds
    | _ => none
  | _ => none
theorem own_list {T : Stt} {s : St} {H : Hp} {i : Nat} {v : V} {ds : List D} (R : Rl K T s H) (hv : s[i]? = some (some v)) (h : T.r[i]? = some (.ol ds)) : ∃ a xs, v = .ref a ∧ H a = some (.lst xs) ∧ RpA K T.G xs ds := by
  have q := R.sl i _ h
  rw [hv] at q
  obtain ⟨a, xs, e1, e2, _, _, e5⟩ := q
  exact ⟨a, xs, Option.some.inj e1, e2, e5⟩
theorem view_ok {T : Stt} {s : St} {H : Hp} {v : V} {d : D} {ds : List D} (R : Rl K T s H) (rv : RpE K T.G s v d) (h : viewD T.r d = some ds) : ∃ a xs, v = .ref a ∧ (SqL K H a xs ∨ SqT K H a xs) ∧ RpA K T.G xs ds := by
  cases d with
  | tup es =>
    cases h
    cases (show Rp K T.G v (.tup ds) from rv) with
    | tup h1 h2 => exact ⟨_, _, rfl, .inr (R.sqt h1), h2⟩
  | lst es =>
    cases h
    cases (show Rp K T.G v (.lst ds) from rv) with
    | lst h1 h2 => exact ⟨_, _, rfl, .inl (SqL.of (R.at h1 rfl)), h2⟩
  | scr ns =>
    cases h
    cases (show Rp K T.G v (.scr ns) from rv) with
    | scr h1 => exact ⟨_, _, rfl, .inl (R.sql h1), RpA.ints ns⟩
  | own i =>
    simp only [viewD] at h
    cases e : T.r[i]? with
    | none => rw [e] at h; cases h
    | some x =>
      rw [e] at h
      cases x with
      | ol es =>
        cases h
        obtain ⟨a, xs, e1, e2, e3⟩ := own_list R rv e
        exact ⟨a, xs, e1, .inl (SqL.of e2), e3⟩
      | _ => cases h
  | obj k =>
    simp only [viewD] at h
    cases e : (stOf T.r)[k]? with
    | none => rw [e] at h; cases h
    | some x =>
      rw [e] at h
      cases x with
      | ls es =>
        cases h
        cases (show RpO K T.G v (.obj k) from rv) with
        | pure h0 => cases h0
        | obj h1 =>
          obtain ⟨xs, e2, e3⟩ := obj_at R e h1
          exact ⟨_, xs, rfl, .inl (SqL.of e2), e3⟩
      | _ => cases h
  | _ => cases h
def viewL (r : Rho) : D → Option (List D)
  | .lst ds => some ds
  | .obj k => match (stOf r)[k]? with
    | some (.ls ds) => some ds
    | _ => none
  | .own i => match r[i]? with
    | some (.ol ds) => some ds
    | _ => none
  | _ => none
theorem viewL_ok {T : Stt} {s : St} {H : Hp} {v : V} {d : D} {ds : List D} (R : Rl K T s H) (rv : RpE K T.G s v d) (h : viewL T.r d = some ds) : ∃ a xs, v = .ref a ∧ H a = some (.lst xs) ∧ RpA K T.G xs ds := by
  cases d with
  | lst es =>
    cases h
    cases (show Rp K T.G v (.lst ds) from rv) with
    | lst h1 h2 => exact ⟨_, _, rfl, R.at h1 rfl, h2⟩
  | own i =>
    simp only [viewL] at h
    cases e : T.r[i]? with
    | none => rw [e] at h; cases h
    | some x =>
      rw [e] at h
      cases x with
      | ol es =>
        cases h
        exact own_list R rv e
      | _ => cases h
  | obj k =>
    simp only [viewL] at h
    cases e : (stOf T.r)[k]? with
    | none => rw [e] at h; cases h
    | some x =>
      rw [e] at h
      cases x with
      | ls es =>
        cases h
        cases (show RpO K T.G v (.obj k) from rv) with
        | pure h0 => cases h0
        | obj h1 =>
          obtain ⟨xs, e2, e3⟩ := obj_at R e h1
          exact ⟨_, xs, rfl, e2, e3⟩
      | _ => cases h
  | _ => cases h
theorem tup_ok {T : Stt} {s : St} {H : Hp} {v : V} {ds : List D} (R : Rl K T s H) (rv : RpE K T.G s v (.tup ds)) : ∃ a xs, v = .ref a ∧ SqT K T.G a xs ∧ SqT K H a xs ∧ RpA K T.G xs ds := by
  cases (show Rp K T.G v (.tup ds) from rv) with
  | tup h1 h2 => exact ⟨_, _, rfl, h1, R.sqt h1, h2⟩
theorem fin {mg : Str → Option Value} {T : Stt} {s : St} {H : Hp} {Q : VK} (d : D) {v : V} (h : KE K mg E T s H (fun d G' H' => ∀ v, RpE K G' s v d → Q v H') (.ok d)) (R : Rl K T s H) (r : Rp K T.G v d) : Q v H := KE.here h R v r.e
theorem finNew {mg : Str → Option Value} {T : Stt} {s : St} {H : Hp} {Q : VK} (d : D) {v : V} (h : KE K mg E T s H (fun d G' H' => ∀ v, RpE K G' s v d → Q v H') (.ok d)) (R : Rl K T s H) {p : Addr} {o : HO} [UnM o] (hp : H p = none) (r : Rp K (upd T.G p o) v d) : Q v (upd H p o) := KE.new h R hp v r.e
noncomputable def okB (p : Prop) : Bool := @decide p (Classical.propDecidable p)
theorem okB_iff {p : Prop} : okB p = true ↔ p := by
  unfold okB
  exact @decide_eq_true_iff p (Classical.propDecidable p)
noncomputable def mulB (i j : Int) : Bool := okB (((-(2 ^ 64) < i ∧ i < 2 ^ 64) ∨ (-(2 ^ 64) < j ∧ j < 2 ^ 64)) ∨ i.natAbs.log2 + j.natAbs.log2 < 1000000)
noncomputable def divB (j : Int) : Bool := okB (0 < j ∧ j.natAbs.log2 < 9000)
def int2 (g : Int → Int → R D) : D → D → R D
  | .int i, .int j => g i j
  | _, _ => .stuck
theorem ops_int {C : Int → Int → Prop} {g : Int → Int → V} {gd : Int → Int → D} {cb : Int → Int → Bool} (hc : ∀ i j, cb i j = true → C i j) (hg : ∀ i j G, Rp K G (g i j) (gd i j)) : OpS K (rI C g) (fun _ => int2 fun i j => if cb i j then .ok (gd i j) else .stuck) := by
  intro mg E T s H x y dx dy Q R rx ry h
  cases dx with
  | int i =>
    cases dy with
    | int j =>
      cases (show Rp K T.G x (.int i) from rx)
      cases (show Rp K T.G y (.int j) from ry)
      have h2 : KE K mg E T s H _ (if cb i j then .ok (gd i j) else .stuck) := h
      cases e : cb i j with
      | true =>
        rw [e] at h2
        exact ⟨i, j, rfl, rfl, hc i j e, fin (gd i j) h2 R (hg i j _)⟩
      | false => rw [e] at h2; exact h2.elim
    | _ => exact h.elim
  | _ => exact h.elim
theorem ops_int0 {g : Int → Int → V} {gd : Int → Int → D} (hg : ∀ i j G, Rp K G (g i j) (gd i j)) : OpS K (rI0 g) (fun _ => int2 fun i j => .ok (gd i j)) := by
  intro mg E T s H x y dx dy Q R rx ry h
  cases dx with
  | int i =>
    cases dy with
    | int j =>
      cases (show Rp K T.G x (.int i) from rx)
      cases (show Rp K T.G y (.int j) from ry)
      exact ⟨i, j, rfl, rfl, fin (gd i j) h R (hg i j _)⟩
    | _ => exact h.elim
  | _ => exact h.elim
theorem mul_ok {i j : Int} (h : mulB i j = true) : IntMulOk i j := by
  unfold mulB at h
  rcases okB_iff.mp h with h | h
  · exact CMul.ok h
  · exact CMulW.ok h
def CM (i j : Int) : Prop := IntMulOk i j
theorem op_mulA : OpR X (binaryOp .Mult) (rI CM fun i j => .int (i * j)) := opI fun _ _ _ _ _ _ _ hc q => mul_int q hc
def subI : Rho → D → D → R D := fun _ => int2 fun i j => .ok (.int (i - j))
noncomputable def mulI : Rho → D → D → R D := fun _ => int2 fun i j => if mulB i j then .ok (.int (i * j)) else .stuck
noncomputable def fdivI : Rho → D → D → R D := fun _ => int2 fun i j => if divB j then .ok (.int (i / j)) else .stuck
def modI : Rho → D → D → R D := fun _ => int2 fun i j => if decide (j ≠ 0) then .ok (.int (i.fmod j)) else .stuck
theorem ops_subI : OpS K (rI0 fun i j => .int (i - j)) subI := ops_int0 fun _ _ _ => .int _
theorem ops_mulI : OpS K (rI CM fun i j => .int (i * j)) mulI := ops_int (cb := mulB) (fun _ _ h => mul_ok h) fun _ _ _ => .int _
theorem ops_fdivI : OpS K (rI CDivW fun i j => .int (i / j)) fdivI := ops_int (cb := fun _ j => divB j) (fun _ _ h => okB_iff.mp h) fun _ _ _ => .int _
theorem ops_modI : OpS K (rI (fun _ j => j ≠ 0) fun i j => .int (i.fmod j)) modI := ops_int (cb := fun _ j => decide (j ≠ 0)) (fun _ _ h => of_decide_eq_true h) fun _ _ _ => .int _
def strLt (a b : Str) : Bool := decide (a.cps.toList < b.cps.toList)
def ltD : Rho → D → D → R D := fun _ x y => match x, y with
  | .int i, .int j => .ok (.bl (decide (i < j)))
  | .str i, .str j => .ok (.bl (strLt i j))
  | _, _ => .stuck
def leD : Rho → D → D → R D := fun _ x y => match x, y with
  | .int i, .int j => .ok (.bl (decide (i ≤ j)))
  | .str i, .str j => .ok (.bl (!strLt j i))
  | _, _ => .stuck
def gtI : Rho → D → D → R D := fun _ => int2 fun i j => .ok (.bl (decide (j < i)))
def geI : Rho → D → D → R D := fun _ => int2 fun i j => .ok (.bl (decide (j ≤ i)))
theorem ops_gtI : OpS K (rI0 fun i j => .bl (decide (j < i))) gtI := ops_int0 fun _ _ _ => .bl _
theorem ops_geI : OpS K (rI0 fun i j => .bl (decide (j ≤ i))) geI := ops_int0 fun _ _ _ => .bl _
abbrev rLtD : R2 := fun x y H Q => rI0 (fun i j => .bl (decide (i < j))) x y H Q ∨ ∃ i j, x = .str i ∧ y = .str j ∧ Q (.bl (decide (i.cps.toList < j.cps.toList))) H
theorem op_ltD : OpR X (compareOp .Lt) rLtD := op_lt.or op_lt_str
theorem ops_ltD : OpS K rLtD ltD := by
  intro mg E T s H x y dx dy Q R rx ry h
  cases dx with
  | int i =>
    cases dy with
    | int j =>
      cases (show Rp K T.G x (.int i) from rx)
      cases (show Rp K T.G y (.int j) from ry)
      exact .inl ⟨i, j, rfl, rfl, fin (.bl (decide (i < j))) h R (Rp.bl _)⟩
    | _ => exact h.elim
  | str i =>
    cases dy with
    | str j =>
      cases (show Rp K T.G x (.str i) from rx)
      cases (show Rp K T.G y (.str j) from ry)
      exact .inr ⟨i, j, rfl, rfl, fin (.bl (strLt i j)) h R (Rp.bl _)⟩
    | _ => exact h.elim
  | _ => exact h.elim
abbrev rLeD : R2 := fun x y H Q => rI0 (fun i j => .bl (decide (i ≤ j))) x y H Q ∨ ∃ i j, x = .str i ∧ y = .str j ∧ Q (.bl (!decide (j.cps.toList < i.cps.toList))) H
theorem op_leD : OpR X (compareOp .LtE) rLeD := op_le.or op_le_str
theorem ops_leD : OpS K rLeD leD := by
  intro mg E T s H x y dx dy Q R rx ry h
  cases dx with
  | int i =>
    cases dy with
    | int j =>
      cases (show Rp K T.G x (.int i) from rx)
      cases (show Rp K T.G y (.int j) from ry)
      exact .inl ⟨i, j, rfl, rfl, fin (.bl (decide (i ≤ j))) h R (Rp.bl _)⟩
    | _ => exact h.elim
  | str i =>
    cases dy with
    | str j =>
      cases (show Rp K T.G x (.str i) from rx)
      cases (show Rp K T.G y (.str j) from ry)
      exact .inr ⟨i, j, rfl, rfl, fin (.bl (!strLt j i)) h R (Rp.bl _)⟩
    | _ => exact h.elim
  | _ => exact h.elim
def ixD (r : Rho) (x y : D) : R D := match y with
  | .int i => (match x with
    | .str z => if decide (z.length ≤ sizeLine) then (match atI z.cps.toList i with
      | some c => .ok (.str ⟨#[c]⟩)
      | none => .stuck) else .stuck
    | x => match viewD r x with
      | some ds => (match atI ds i with
        | some d => .ok d
        | none => .stuck)
      | none => .stuck)
  | _ => .stuck
theorem RpA.atI {G : Hp} {xs : List V} {ds : List D} {i : Int} {d : D} (r : RpA K G xs ds) (h : L2.atI ds i = some d) : ∃ v, L2.atI xs i = some v ∧ Rp K G v d := by
  unfold L2.atI at h ⊢
  rw [r.length]
  cases e : ixN ds.length i with
  | none => rw [e] at h; cases h
  | some j =>
    rw [e] at h
    exact r.get h
theorem ops_ixD : OpS K (rIx K) ixD := by
  intro mg E T s H x y dx dy Q R rx ry h
  cases dy with
  | int i =>
    cases (show Rp K T.G y (.int i) from ry)
    have seq : ∀ ds, viewD T.r dx = some ds → KE K mg E T s H (fun d G' H' => ∀ v, RpE K G' s v d → Q v H') (match L2.atI ds i with | some d => .ok d | none => .stuck) → rIx K x (.int i) H Q := fun ds hv hk => by
      obtain ⟨a, xs, rfl, hq, hr⟩ := view_ok R rx hv
      cases e : L2.atI ds i with
      | none => rw [e] at hk; exact hk.elim
      | some d =>
        rw [e] at hk
        obtain ⟨v, e1, e2⟩ := hr.atI e
        have fin1 : Q v H := fin d hk R e2
        rcases hq with hq | hq
        · exact .inl ⟨a, xs, i, v, rfl, rfl, hq, e1, fin1⟩
        · exact .inr (.inl ⟨a, xs, i, v, rfl, rfl, hq, e1, fin1⟩)
    cases dx with
    | str z =>
      cases (show Rp K T.G x (.str z) from rx)
      have h2 : KE K mg E T s H (fun d G' H' => ∀ v, RpE K G' s v d → Q v H') (if decide (z.length ≤ sizeLine) then (match L2.atI z.cps.toList i with | some c => .ok (.str ⟨#[c]⟩) | none => .stuck) else .stuck) := h
      cases e : decide (z.length ≤ sizeLine) with
      | false => rw [e] at h2; exact h2.elim
      | true =>
        rw [e] at h2
        have h3 : KE K mg E T s H (fun d G' H' => ∀ v, RpE K G' s v d → Q v H') (match L2.atI z.cps.toList i with | some c => .ok (.str ⟨#[c]⟩) | none => .stuck) := h2
        cases e2 : L2.atI z.cps.toList i with
        | none => rw [e2] at h3; exact h3.elim
        | some c =>
          rw [e2] at h3
          exact .inr (.inr ⟨z, i, c, rfl, rfl, of_decide_eq_true e, e2, fin (.str ⟨#[c]⟩) h3 R (Rp.str _)⟩)
    | tup ds => exact seq ds rfl h
    | lst ds => exact seq ds rfl h
    | scr ds => exact seq _ rfl h
    | own j =>
      have h2 : KE K mg E T s H (fun d G' H' => ∀ v, RpE K G' s v d → Q v H') (match viewD T.r (.own j) with | some ds => (match L2.atI ds i with | some d => .ok d | none => .stuck) | none => .stuck) := h
      cases e : viewD T.r (.own j) with
      | none => rw [e] at h2; exact h2.elim
      | some ds =>
        rw [e] at h2
        exact seq ds e h2
    | obj j =>
      have h2 : KE K mg E T s H (fun d G' H' => ∀ v, RpE K G' s v d → Q v H') (match viewD T.r (.obj j) with | some ds => (match L2.atI ds i with | some d => .ok d | none => .stuck) | none => .stuck) := h
      cases e : viewD T.r (.obj j) with
      | none => rw [e] at h2; exact h2.elim
      | some ds =>
        rw [e] at h2
        exact seq ds e h2
    | _ => exact h.elim
  | _ => exact h.elim
theorem ev_ix (ha : EV X E a fa) (hb : EV X E b fb) (hs : PlainIx b := by exact fun _ _ => rfl) : EV X E (.Subscript a b pos) (fBin ixD fa fb) :=
  pe_imp (pe_ix ix_seq ha hb hs) fun s H Q h => op_red ops_ixD h
end
end PL
end
section
namespace PL
open PySem PySem.Spec PyProof.Rows L2
mutual
def py : D → PyData
  | .non => .none
  | .bl b => .bool b
  | .int i => .int i
  | .str x => .str x
  | .tup ds => .tuple (pys ds)
  | .lst ds => .list (pys ds)
  | .scr ns => .list (ns.map .int)
  | .tpn ds => .tuple (pys ds)
  | .dic _ => .dict []
  | .own _ => .dict []
  | .exc _ => .dict []
  | .fn _ => .dict []
  | .obj _ => .dict []
  | .tpo _ => .dict []
def pys : List D → List PyData
  | [] => []
  | d :: ds => py d :: pys ds
end
def pyT (r : Rho) : D → PyData
  | .own i => match r[i]? with
    | some (.ol ds) => .list (pys ds)
    | _ => .dict []
  | .obj k => match (stOf r)[k]? with
    | some (.ls ds) => .list (pys ds)
    | _ => .dict []
  | d => py d
section
variable {K : PySem.W.Frag} {E : WX}
theorem dp_ints {H : Hp} : ∀ ns : List Int, DpAll K H (ns.map V.int) (ns.map PyData.int)
  | [] => .nil
  | n :: ns => .cons (.int n) (dp_ints ns)
mutual
theorem dp_of {G H : Hp} (e : Ex (um G) H) : ∀ (d : D) (v : V), (py d).canLay0 = true → Rp K G v d → Dp K H v (py d)
  | .non, _, _, .non => .non
  | .bl b, _, _, .bl _ => .bl b
  | .int i, _, _, .int _ => .int i
  | .str x, _, _, .str _ => .str x
  | .tup ds, _, c, .tup h r => .tup (ex_t e (um_t h)) (dp_all e ds _ c r)
  | .lst ds, _, c, .lst h r => .lst (SqL.of (e _ _ (um_of h rfl))) (dp_all e ds _ c r)
  | .scr ns, _, _, .scr h => .lst (Same.seq e (um_l h)) (dp_ints ns)
  | .tpn ds, _, c, .tpn h _ r => .tup (.inl (.inr ⟨_, e _ _ (um_of h rfl)⟩)) (dp_all e ds _ c r)
theorem dp_all {G H : Hp} (e : Ex (um G) H) : ∀ (d : List D) (v : List V), PyData.canLayAll0 (pys d) = true → RpA K G v d → DpAll K H v (pys d)
  | [], _, _, .nil => .nil
  | d :: ds, _, c, .cons h r => by
    have c2 : ((py d).canLay0 && PyData.canLayAll0 (pys ds)) = true := c
    rw [Bool.and_eq_true] at c2
    exact .cons (dp_of e d _ c2.1 h) (dp_all e ds _ c2.2 r)
end
theorem dpT_of {T : Stt} {s : St} {H : Hp} {v : V} {d : D} (R : Rl K T s H) (rv : RpE K T.G s v d) (c : SeqAt.shaped (pyT T.r d) = true) : Dp K H v (pyT T.r d) := by
  have c2 := SeqAt.canLay_of_shaped c
  cases d with
  | own i =>
    simp only [pyT] at c2 ⊢
    cases e : T.r[i]? with
    | none => rw [e] at c2; cases c2
    | some x =>
      rw [e] at c2
      cases x with
      | ol es =>
        obtain ⟨a, xs, e1, e2, e3⟩ := own_list R rv e
        subst e1
        exact .lst (SqL.of e2) (dp_all R.gh es _ c2 e3)
      | _ => cases c2
  | obj k =>
    simp only [pyT] at c2 ⊢
    cases e : (stOf T.r)[k]? with
    | none => rw [e] at c2; cases c2
    | some x =>
      rw [e] at c2
      cases x with
      | ls es =>
        cases (show RpO K T.G v (.obj k) from rv) with
        | pure h0 => cases h0
        | obj h1 =>
          obtain ⟨xs, e2, e3⟩ := obj_at R e h1
          exact .lst (SqL.of e2) (dp_all R.gh es _ c2 e3)
      | _ => cases c2
  | tpo k => cases c2
  | _ => exact dp_of R.gh _ v c2 rv
def eqD (r : Rho) (x y : D) : R D := if SeqAt.shaped (pyT r x) && SeqAt.shaped (pyT r y) then .ok (.bl (PyData.eqv (pyT r x) (pyT r y))) else .stuck
def neD (r : Rho) (x y : D) : R D := if SeqAt.shaped (pyT r x) && SeqAt.shaped (pyT r y) then .ok (.bl (!PyData.eqv (pyT r x) (pyT r y))) else .stuck
theorem ops_eqD : OpS K (rEqD K) eqD := by
  intro mg E T s H x y dx dy Q R rx ry h
  unfold eqD at h
  cases e : (SeqAt.shaped (pyT T.r dx) && SeqAt.shaped (pyT T.r dy)) with
  | false => rw [e] at h; exact h.elim
  | true =>
    rw [e] at h
    rw [Bool.and_eq_true] at e
    exact ⟨_, _, dpT_of R rx e.1, dpT_of R ry e.2, e.1, e.2, fin (.bl _) h R (Rp.bl _)⟩
theorem ops_neD : OpS K (rNeD K) neD := by
  intro mg E T s H x y dx dy Q R rx ry h
  unfold neD at h
  cases e : (SeqAt.shaped (pyT T.r dx) && SeqAt.shaped (pyT T.r dy)) with
  | false => rw [e] at h; exact h.elim
  | true =>
    rw [e] at h
    rw [Bool.and_eq_true] at e
    exact ⟨_, _, dpT_of R rx e.1, dpT_of R ry e.2, e.1, e.2, fin (.bl _) h R (Rp.bl _)⟩
def isNon : D → Bool
  | .non => true
  | _ => false
theorem isNon_ok {G : Hp} {v : V} {d : D} (r : Rp K G v d) : decide (v = .non) = isNon d := by
  cases r <;> rfl
def isD (_ : Rho) (x y : D) : R D := match x, y with
  | .own _, _ => .stuck
  | .tpo _, _ => .stuck
  | x, .non => .ok (.bl (isNon x))
  | .bl a, .bl b => .ok (.bl (decide (a = b)))
  | _, _ => .stuck
abbrev rIsD : R2 := fun x y H Q => (y = .non ∧ Q (.bl (decide (x = .non))) H) ∨ rIsB x y H Q
theorem op_isD {X : Cx} : OpR X (compareOp .Is) rIsD := op_isN.or op_isBl
theorem ops_isD : OpS K rIsD isD := by
  intro mg E T s H x y dx dy Q R rx ry h
  cases dy with
  | non =>
    cases (show Rp K T.G y .non from ry)
    have z : noOwn dx = true → KE K mg E T s H (fun d G' H' => ∀ v, RpE K G' s v d → Q v H') (.ok (.bl (isNon dx))) → rIsD x .non H Q := fun no h2 => by
      refine .inl ⟨rfl, ?_⟩
      rw [isNon_ok (RpE.im no rx)]
      exact fin (.bl _) h2 R (Rp.bl _)
    have zo : ∀ k, dx = .obj k → KE K mg E T s H (fun d G' H' => ∀ v, RpE K G' s v d → Q v H') (.ok (.bl (isNon dx))) → rIsD x .non H Q := fun k e h2 => by
      subst e
      cases (show RpO K T.G x (.obj k) from rx) with
      | pure h0 => cases h0
      | obj h1 => exact .inl ⟨rfl, fin (.bl _) h2 R (Rp.bl _)⟩
    cases dx <;> first | exact z rfl h | exact zo _ rfl h | exact h.elim
  | bl b =>
    cases (show Rp K T.G y (.bl b) from ry)
    cases dx with
    | bl a =>
      cases (show Rp K T.G x (.bl a) from rx)
      exact .inr ⟨a, b, rfl, rfl, fin (.bl _) h R (Rp.bl _)⟩
    | _ => exact h.elim
  | _ => cases dx <;> exact h.elim
def flatD : D → Bool
  | .non => true
  | .bl _ => true
  | .int _ => true
  | .str _ => true
  | _ => false
def fv : D → V
  | .bl b => .bl b
  | .int i => .int i
  | .str x => .str x
  | _ => .non
theorem fv_ok {G : Hp} {v : V} {d : D} (f : flatD d = true) (r : Rp K G v d) : v = fv d ∧ flatV v = true := by
  cases r <;> first | exact ⟨rfl, rfl⟩ | cases f
theorem fvs_ok {G : Hp} : ∀ {v : List V} {d : List D}, d.all flatD = true → RpA K G v d → v = d.map fv ∧ v.all flatV = true
  | _, _, _, .nil => ⟨rfl, rfl⟩
  | _, _, f, .cons h r => by
    rw [List.all_cons, Bool.and_eq_true] at f
    obtain ⟨e1, e2⟩ := fv_ok f.1 h
    obtain ⟨e3, e4⟩ := fvs_ok f.2 r
    refine ⟨by rw [List.map_cons, ← e1, ← e3], by rw [List.all_cons, e2, e4]; rfl⟩
def inB (x : D) (ds : List D) : Bool := inV (fv x) (ds.map fv)
def oneSign (x : Str) : Option Nat := match x.cps.toList with
  | [c] => some c
  | _ => none
theorem oneSign_ok {x : Str} {c : Nat} (h : oneSign x = some c) : x = ⟨#[c]⟩ := by
  unfold oneSign at h
  split at h
  · cases h
    rename_i e
    cases x with
    | mk cps =>
      have e2 : cps = [c].toArray := by rw [← e]
      exact congrArg Str.mk e2
  · cases h
def inG (neg : Bool) (r : Rho) (x y : D) : R D := match y with
  | .str z => (match x with
    | .str a => (match oneSign a with
      | some c => .ok (.bl (if neg then !decide (c ∈ z.cps.toList) else decide (c ∈ z.cps.toList)))
      | none => .stuck)
    | _ => .stuck)
  | y => match viewD r y with
    | some ds => if flatD x && ds.all flatD then .ok (.bl (if neg then !inB x ds else inB x ds)) else .stuck
    | none => .stuck
abbrev rInG (K : PySem.W.Frag) (neg : Bool) : R2 := fun x y H Q => rIn K neg x y H Q ∨ (∃ (c : Nat) (z : Str), x = .str ⟨#[c]⟩ ∧ y = .str z ∧ Q (.bl (if neg then !decide (c ∈ z.cps.toList) else decide (c ∈ z.cps.toList))) H)
theorem op_inG {X : Cx} : OpR X (compareOp .In) (rInG X.K false) := op_in_seq.or op_in_sign
theorem ops_inG {neg : Bool} : OpS K (rInG K neg) (inG neg) := by
  intro mg E T s H x y dx dy Q R rx ry h
  have seq : ∀ ds, viewD T.r dy = some ds → KE K mg E T s H (fun d G' H' => ∀ v, RpE K G' s v d → Q v H') (if flatD dx && ds.all flatD then .ok (.bl (if neg then !inB dx ds else inB dx ds)) else .stuck) → rInG K neg x y H Q := fun ds hv hk => by
    obtain ⟨a, xs, rfl, hq, hr⟩ := view_ok R ry hv
    cases e : (flatD dx && ds.all flatD) with
    | false => rw [e] at hk; exact hk.elim
    | true =>
      rw [e] at hk
      rw [Bool.and_eq_true] at e
      have no : noOwn dx = true := by cases dx <;> first | rfl | cases e.1
      obtain ⟨e1, e2⟩ := fv_ok e.1 (RpE.im no rx)
      obtain ⟨e3, e4⟩ := fvs_ok e.2 hr
      refine .inl ⟨a, xs, rfl, hq, e2, e4, ?_⟩
      rw [e1, e3]
      exact fin (.bl _) hk R (Rp.bl _)
  cases dy with
  | str z =>
    cases (show Rp K T.G y (.str z) from ry)
    cases dx with
    | str a =>
      cases (show Rp K T.G x (.str a) from rx)
      have h2 : KE K mg E T s H (fun d G' H' => ∀ v, RpE K G' s v d → Q v H') (match oneSign a with | some c => .ok (.bl (if neg then !decide (c ∈ z.cps.toList) else decide (c ∈ z.cps.toList))) | none => .stuck) := h
      cases e : oneSign a with
      | none => rw [e] at h2; exact h2.elim
      | some c =>
        rw [e] at h2
        refine .inr ⟨c, z, congrArg V.str (oneSign_ok e), rfl, ?_⟩
        exact fin (.bl _) h2 R (Rp.bl _)
    | _ => exact h.elim
  | tup ds => exact seq ds rfl h
  | lst ds => exact seq ds rfl h
  | scr ds => exact seq _ rfl h
  | own j =>
    have h2 : KE K mg E T s H (fun d G' H' => ∀ v, RpE K G' s v d → Q v H') (match viewD T.r (.own j) with | some ds => if flatD dx && ds.all flatD then .ok (.bl (if neg then !inB dx ds else inB dx ds)) else .stuck | none => .stuck) := h
    cases e : viewD T.r (.own j) with
    | none => rw [e] at h2; exact h2.elim
    | some ds =>
      rw [e] at h2
      exact seq ds e h2
  | obj j =>
    have h2 : KE K mg E T s H (fun d G' H' => ∀ v, RpE K G' s v d → Q v H') (match viewD T.r (.obj j) with | some ds => if flatD dx && ds.all flatD then .ok (.bl (if neg then !inB dx ds else inB dx ds)) else .stuck | none => .stuck) := h
    cases e : viewD T.r (.obj j) with
    | none => rw [e] at h2; exact h2.elim
    | some ds =>
      rw [e] at h2
      exact seq ds e h2
  | _ => exact h.elim
def catL (r : Rho) (x y : D) : R (List D) := match viewL r x, viewL r y with
  | some a, some b => if decide (a.length + b.length ≤ sizeLine) then .ok (a ++ b) else .stuck
  | _, _ => .stuck
def addD (r : Rho) (x y : D) : R D := match x, y with
  | .int i, .int j => .ok (.int (i + j))
  | .str a, .str b => if decide (a.length + b.length ≤ sizeLine) then .ok (.str (a ++ b)) else .stuck
  | .tup a, .tup b => if decide (a.length + b.length ≤ sizeLine) then .ok (.tup (a ++ b)) else .stuck
  | x, y => (catL r x y).bnd fun ds => .ok (.lst ds)
abbrev rAddD (K : PySem.W.Frag) : R2 := fun x y H Q => rI0 (fun i j => .int (i + j)) x y H Q ∨ (∃ i j, x = .str i ∧ y = .str j ∧ i.length + j.length ≤ sizeLine ∧ Q (.str (i ++ j)) H) ∨ rCatA K x y H Q ∨ rCat x y H Q
theorem op_addD {X : Cx} : OpR X (binaryOp .Add) (rAddD X.K) := op_add.or (op_add_str.or (op_catA.or op_cat))
theorem ops_addD : OpS K (rAddD K) addD := by
  intro mg E T s H x y dx dy Q R rx ry h
  have lists : KE K mg E T s H (fun d G' H' => ∀ v, RpE K G' s v d → Q v H') ((catL T.r dx dy).bnd fun ds => .ok (.lst ds)) → rAddD K x y H Q := fun hk => by
    unfold catL at hk
    cases e1 : viewL T.r dx with
    | none => rw [e1] at hk; exact hk.elim
    | some a =>
      cases e2 : viewL T.r dy with
      | none => rw [e1, e2] at hk; exact hk.elim
      | some b =>
        rw [e1, e2] at hk
        have hk2 : KE K mg E T s H (fun d G' H' => ∀ v, RpE K G' s v d → Q v H') ((if decide (a.length + b.length ≤ sizeLine) then PL.R.ok (a ++ b) else PL.R.stuck).bnd fun ds => .ok (.lst ds)) := hk
        cases e3 : decide (a.length + b.length ≤ sizeLine) with
        | false => rw [e3] at hk2; exact hk2.elim
        | true =>
          rw [e3] at hk2
          obtain ⟨p, xs, rfl, hp, hr⟩ := viewL_ok R rx e1
          obtain ⟨q, ys, rfl, hq, hs⟩ := viewL_ok R ry e2
          refine .inr (.inr (.inr ⟨p, q, xs, ys, rfl, rfl, hp, hq, by rw [hr.length, hs.length]; exact of_decide_eq_true e3, fun t ht => ?_⟩))
          exact finNew (.lst (a ++ b)) hk2 R ht (Rp.lst upd_same ((hr.append hs).mono (ex_new (R.gf _ ht))))
  cases dx with
  | int i =>
    cases dy with
    | int j =>
      cases (show Rp K T.G x (.int i) from rx)
      cases (show Rp K T.G y (.int j) from ry)
      exact .inl ⟨i, j, rfl, rfl, fin (.int _) h R (Rp.int _)⟩
    | _ => exact lists h
  | str i =>
    cases dy with
    | str j =>
      cases (show Rp K T.G x (.str i) from rx)
      cases (show Rp K T.G y (.str j) from ry)
      have h2 : KE K mg E T s H (fun d G' H' => ∀ v, RpE K G' s v d → Q v H') (if decide (i.length + j.length ≤ sizeLine) then .ok (.str (i ++ j)) else .stuck) := h
      cases e3 : decide (i.length + j.length ≤ sizeLine) with
      | false => rw [e3] at h2; exact h2.elim
      | true =>
        rw [e3] at h2
        exact .inr (.inl ⟨i, j, rfl, rfl, of_decide_eq_true e3, fin (.str _) h2 R (Rp.str _)⟩)
    | _ => exact lists h
  | tup a =>
    cases dy with
    | tup b =>
      obtain ⟨p, xs, rfl, hp0, hp, hr⟩ := tup_ok R rx
      obtain ⟨q, ys, rfl, hq0, hq, hs⟩ := tup_ok R ry
      have h2 : KE K mg E T s H (fun d G' H' => ∀ v, RpE K G' s v d → Q v H') (if decide (a.length + b.length ≤ sizeLine) then .ok (.tup (a ++ b)) else .stuck) := h
      cases e3 : decide (a.length + b.length ≤ sizeLine) with
      | false => rw [e3] at h2; exact h2.elim
      | true =>
        rw [e3] at h2
        refine .inr (.inr (.inl ⟨p, q, xs, ys, rfl, rfl, hp, hq, by rw [hr.length, hs.length]; exact of_decide_eq_true e3, fun z => ?_, fun _ z => ?_, fun _ _ t ht => ?_⟩))
        · subst z
          cases hr
          exact fin (.tup b) h2 R (Rp.tup hq0 hs)
        · subst z
          cases hs
          rw [List.append_nil] at h2
          exact fin (.tup a) h2 R (Rp.tup hp0 hr)
        · exact finNew (.tup (a ++ b)) h2 R ht (Rp.tup (SqT.of upd_same) ((hr.append hs).mono (ex_new (R.gf _ ht))))
    | _ => exact lists h
  | _ => exact lists h
inductive RpL (K : PySem.W.Frag) (G : Hp) (s : St) : List V → List D → Prop
  | nil : RpL K G s [] []
  | cons {v : V} {vs : List V} {d : D} {ds : List D} : RpE K G s v d → RpL K G s vs ds → RpL K G s (v :: vs) (d :: ds)
theorem RpL.mono {G G' : Hp} {s : St} (e : Ex G G') : ∀ {v : List V} {d : List D}, RpL K G s v d → RpL K G' s v d
  | _, _, .nil => .nil
  | _, _, .cons h r => .cons (h.mono e) (r.mono e)
def tB (K : PySem.W.Frag) (mg : Str → Option Value) (E : WX) (f : Rho → R (List D)) : TA := fun s H Q => ∃ T, Rl K T s H ∧ KE K mg E T s H (fun ds G' H' => ∀ vs, RpL K G' s vs ds → Q vs H') (f T.r)
def EB (X : Cx) (E : WX) (e : List Expr) (f : Rho → R (List D)) : Prop := PA X e (tB X.K X.mg E f)
def fConsB (f : Rho → R D) (fs : Rho → R (List D)) (r : Rho) : R (List D) := (f r).bnd fun d => (fs r).bnd fun ds => .ok (d :: ds)
end
section
variable {X : Cx} {E : WX} {a b c : Expr} {fa fb fc : Rho → R D} {pos p : Pos} {es : List Expr} {fs : Rho → R (List D)} {x : Str} {e : Expr}
theorem eb_nil : EB X E [] fNil := pa_imp pa_nil fun s H Q ⟨T, R, h⟩ => h.here R [] .nil
theorem eb_cons (ha : EV X E a fa) (hr : EB X E es fs) (hs : starEach (a :: es) X.env = (false, eval a X.env) :: starEach es X.env := by rfl) : EB X E (a :: es) (fConsB fa fs) :=
  pa_imp (pa_cons ha hr hs) fun s H Q ⟨T, R, h⟩ => ⟨T, R, KE.bnd h fun d G1 H1 _ eg eh R1 h1 v rv =>
    ⟨{ T with G := G1 }, R1, KE.bnd (show KE X.K X.mg E { T with G := G1 } s H1 _ ((fs T.r).bnd fun ds => .ok (d :: ds)) from h1) fun ds G2 H2 _ eg2 eh2 R2 h2 vs rvs => KE.here h2 R2 _ (.cons (rv.mono eg2) rvs)⟩⟩
def CallS (K : PySem.W.Frag) (r : List V → Hp → VK → Prop) (g : Rho → List D → R D) : Prop := ∀ (mg : Str → Option Value) (E : WX) (T : Stt) (s : St) (H : Hp) (xs : List V) (ds : List D) (Q : VK), Rl K T s H → RpL K T.G s xs ds →
  KE K mg E T s H (fun d G' H' => ∀ v, RpE K G' s v d → Q v H') (g T.r ds) → r xs H Q
def CallN (K : PySem.W.Frag) (r : List V → Hp → VK → Prop) (g : Rho → List D → R (List D)) : Prop := ∀ (mg : Str → Option Value) (E : WX) (T : Stt) (s : St) (H : Hp) (xs : List V) (ds : List D) (Q : VK), Rl K T s H → RpL K T.G s xs ds →
  KE K mg E T s H (fun ds G' H' => ∀ p xs, H p = none → H' p = some (.lst xs) → G' p = none → RpA K G' xs ds → Q (.ref p) H') (g T.r ds) → r xs H Q
def fCallB {α : Type} (g : Rho → List D → R α) (fs : Rho → R (List D)) (r : Rho) : R α := (fs r).bnd (g r)
theorem ev_callB {id : String} {r : List V → Hp → VK → Prop} {g : Rho → List D → R D} (hc : CallR X (.builtin id) r) (hs : CallS X.K r g) (hg : Gl X x) (hm : X.mg x = none) (hv : bootBuiltins x = some (.builtin id)) (ha : EB X E (e :: es) fs) (hn : x ≠ "__name__" := by decide) (hdb : (x == ("__debug__" : Str)) = false := by decide)
    (he : starEach (e :: es) X.env = (false, eval e X.env) :: starEach es X.env := by rfl) (hpl : (backTo pos (starEach es X.env)).any (·.1) = false := by rfl) : EV X E (.Call (.Name x p) (e :: es) [] pos) (fCallB g fs) :=
  pe_imp (pe_callB hc hg hm hv ha hn hdb he hpl) fun s H Q ⟨T, R, h⟩ => ⟨T, R, KE.bnd h fun ds G1 H1 _ eg eh R1 h1 vs rvs => hs X.mg E { T with G := G1 } s H1 vs ds Q R1 rvs h1⟩
theorem ev_callTy {id : String} {r : List V → Hp → VK → Prop} {g : Rho → List D → R D} (hc : CallR X (.type id) r) (hs : CallS X.K r g) (hg : Gl X x) (hm : X.mg x = none) (hv : bootBuiltins x = some (.type id)) (ha : EB X E (e :: es) fs) (hn : x ≠ "__name__" := by decide) (hdb : (x == ("__debug__" : Str)) = false := by decide)
    (he : starEach (e :: es) X.env = (false, eval e X.env) :: starEach es X.env := by rfl) (hpl : (backTo pos (starEach es X.env)).any (·.1) = false := by rfl) : EV X E (.Call (.Name x p) (e :: es) [] pos) (fCallB g fs) :=
  pe_imp (pe_callTy hc hg hm hv ha hn hdb he hpl) fun s H Q ⟨T, R, h⟩ => ⟨T, R, KE.bnd h fun ds G1 H1 _ eg eh R1 h1 vs rvs => hs X.mg E { T with G := G1 } s H1 vs ds Q R1 rvs h1⟩
theorem callN_red {K : PySem.W.Frag} {mg : Str → Option Value} {r : List V → Hp → VK → Prop} {g : Rho → List D → R (List D)} {s : St} {H : Hp} {Q : VK} (hs : CallN K r g) (h : tN K mg E (fCallB g fs) s H Q) : tCB r (tB K mg E fs) s H Q := by
  obtain ⟨T, R, h⟩ := h
  refine ⟨T, R, KE.bnd h fun ds G1 H1 _ eg eh R1 h1 vs rvs => hs mg E { T with G := G1 } s H1 vs ds Q R1 rvs (KE.imp h1 fun d G' H' a b c q p xs h1 h2 h3 h4 => q p xs (eh.free h1) h2 h3 h4)⟩
theorem en_callB {id : String} {r : List V → Hp → VK → Prop} {g : Rho → List D → R (List D)} (hc : CallR X (.builtin id) r) (hs : CallN X.K r g) (hg : Gl X x) (hm : X.mg x = none) (hv : bootBuiltins x = some (.builtin id)) (ha : EB X E (e :: es) fs) (hn : x ≠ "__name__" := by decide) (hdb : (x == ("__debug__" : Str)) = false := by decide)
    (he : starEach (e :: es) X.env = (false, eval e X.env) :: starEach es X.env := by rfl) (hpl : (backTo pos (starEach es X.env)).any (·.1) = false := by rfl) : EN X E (.Call (.Name x p) (e :: es) [] pos) (fCallB g fs) :=
  pe_imp (pe_callB hc hg hm hv ha hn hdb he hpl) fun s H Q h => callN_red hs h
theorem en_callTy {id : String} {r : List V → Hp → VK → Prop} {g : Rho → List D → R (List D)} (hc : CallR X (.type id) r) (hs : CallN X.K r g) (hg : Gl X x) (hm : X.mg x = none) (hv : bootBuiltins x = some (.type id)) (ha : EB X E (e :: es) fs) (hn : x ≠ "__name__" := by decide) (hdb : (x == ("__debug__" : Str)) = false := by decide)
    (he : starEach (e :: es) X.env = (false, eval e X.env) :: starEach es X.env := by rfl) (hpl : (backTo pos (starEach es X.env)).any (·.1) = false := by rfl) : EN X E (.Call (.Name x p) (e :: es) [] pos) (fCallB g fs) :=
  pe_imp (pe_callTy hc hg hm hv ha hn hdb he hpl) fun s H Q h => callN_red hs h
end
section
variable {K : PySem.W.Frag}
def lenD (r : Rho) : List D → R D
  | [.str z] => if decide (z.length ≤ sizeLine) then .ok (.int z.length) else .stuck
  | [d] => match viewD r d with
    | some ds => .ok (.int ds.length)
    | none => .stuck
  | _ => .stuck
abbrev rLenD (K : PySem.W.Frag) : List V → Hp → VK → Prop := fun xs H Q => (∃ p ys, xs = [.ref p] ∧ (SqL K H p ys ∨ SqT K H p ys) ∧ Q (.int ys.length) H) ∨ ∃ z, xs = [.str z] ∧ z.length ≤ sizeLine ∧ Q (.int z.length) H
theorem call_lenD {X : Cx} : CallR X (.builtin "len") (rLenD X.K) := call_len_seq.or call_len_str
theorem cs_lenD : CallS K (rLenD K) lenD := by
  intro mg E T s H xs ds Q R rs h
  cases rs with
  | nil => exact h.elim
  | @cons v vs d ds rv rr =>
    cases rr with
    | cons _ _ => cases d <;> exact h.elim
    | nil =>
      have seq : ∀ es, viewD T.r d = some es → KE K mg E T s H (fun d G' H' => ∀ v, RpE K G' s v d → Q v H') (.ok (.int es.length)) → rLenD K [v] H Q := fun es hv hk => by
        obtain ⟨a, xs, rfl, hq, hr⟩ := view_ok R rv hv
        refine .inl ⟨a, xs, rfl, hq, ?_⟩
        rw [hr.length]
        exact fin (.int _) hk R (Rp.int _)
      cases d with
      | str z =>
        cases (show Rp K T.G v (.str z) from rv)
        have h2 : KE K mg E T s H (fun d G' H' => ∀ v, RpE K G' s v d → Q v H') (if decide (z.length ≤ sizeLine) then .ok (.int z.length) else .stuck) := h
        cases e : decide (z.length ≤ sizeLine) with
        | false => rw [e] at h2; exact h2.elim
        | true =>
          rw [e] at h2
          exact .inr ⟨z, rfl, of_decide_eq_true e, fin (.int _) h2 R (Rp.int _)⟩
      | tup ds => exact seq ds rfl h
      | lst ds => exact seq ds rfl h
      | scr ds => exact seq _ rfl h
      | own j =>
        have h2 : KE K mg E T s H (fun d G' H' => ∀ v, RpE K G' s v d → Q v H') (match viewD T.r (.own j) with | some ds => .ok (.int ds.length) | none => .stuck) := h
        cases e : viewD T.r (.own j) with
        | none => rw [e] at h2; exact h2.elim
        | some ds =>
          rw [e] at h2
          exact seq ds e h2
      | obj j =>
        have h2 : KE K mg E T s H (fun d G' H' => ∀ v, RpE K G' s v d → Q v H') (match viewD T.r (.obj j) with | some ds => .ok (.int ds.length) | none => .stuck) := h
        cases e : viewD T.r (.obj j) with
        | none => rw [e] at h2; exact h2.elim
        | some ds =>
          rw [e] at h2
          exact seq ds e h2
      | _ => exact h.elim
def absD (_ : Rho) : List D → R D
  | [.int i] => .ok (.int (if i < 0 then -i else i))
  | _ => .stuck
theorem cs_absD : CallS K (fun xs H Q => ∃ i, xs = [.int i] ∧ Q (.int (if i < 0 then -i else i)) H) absD := by
  intro mg E T s H xs ds Q R rs h
  cases rs with
  | nil => exact h.elim
  | @cons v vs d ds rv rr =>
    cases rr with
    | cons _ _ => cases d <;> exact h.elim
    | nil =>
      cases d with
      | int i =>
        cases (show Rp K T.G v (.int i) from rv)
        exact ⟨i, rfl, fin (.int _) h R (Rp.int _)⟩
      | _ => exact h.elim
def tupleD (r : Rho) : List D → R D
  | [.tup ds] => .ok (.tup ds)
  | [d] => match viewL r d with
    | some ds => .ok (.tup ds)
    | none => .stuck
  | _ => .stuck
theorem cs_tupleD : CallS K (fun xs H Q => ∃ p ys, xs = [.ref p] ∧ ((SqL K H p ys ∧ ∀ l, H l = none → Q (.ref l) (upd H l (.tup ys))) ∨ (SqT K H p ys ∧ Q (.ref p) H))) tupleD := by
  intro mg E T s H xs ds Q R rs h
  cases rs with
  | nil => exact h.elim
  | @cons v vs d ds rv rr =>
    cases rr with
    | cons _ _ => cases d <;> exact h.elim
    | nil =>
      have seq : KE K mg E T s H (fun d G' H' => ∀ v, RpE K G' s v d → Q v H') (match viewL T.r d with | some ds => .ok (.tup ds) | none => .stuck) → ∃ p ys, [v] = [V.ref p] ∧ ((SqL K H p ys ∧ ∀ l, H l = none → Q (.ref l) (upd H l (.tup ys))) ∨ (SqT K H p ys ∧ Q (.ref p) H)) := fun hk => by
        cases e : viewL T.r d with
        | none => rw [e] at hk; exact hk.elim
        | some es =>
          rw [e] at hk
          obtain ⟨a, xs, rfl, hq, hr⟩ := viewL_ok R rv e
          exact ⟨a, xs, rfl, .inl ⟨SqL.of hq, fun l hl => finNew (.tup es) hk R hl (Rp.tup (SqT.of upd_same) (hr.mono (ex_new (R.gf _ hl))))⟩⟩
      cases d with
      | tup es =>
        obtain ⟨p, xs, rfl, hp0, hp, hr⟩ := tup_ok R rv
        exact ⟨p, xs, rfl, .inr ⟨hp, fin (.tup es) h R (Rp.tup hp0 hr)⟩⟩
      | _ => first | exact seq h | exact h.elim
def listD (r : Rho) : List D → R (List D)
  | [d] => match viewD r d with
    | some ds => .ok ds
    | none => .stuck
  | _ => .stuck
def boolsOf : List D → Option (List Bool)
  | [] => some []
  | .bl b :: ds => (boolsOf ds).map (b :: ·)
  | _ => none
theorem boolsOf_ok {G : Hp} : ∀ {v : List V} {d : List D} {bs : List Bool}, boolsOf d = some bs → RpA K G v d → v = bs.map V.bl
  | _, [], bs, h, .nil => by cases h; rfl
  | _, d :: ds, bs, h, .cons h1 r => by
    cases d with
    | bl b =>
      have h2 : (boolsOf ds).map (b :: ·) = some bs := h
      cases e : boolsOf ds with
      | none => rw [e] at h2; cases h2
      | some cs =>
        rw [e] at h2
        cases h2
        cases h1
        rw [boolsOf_ok e r]
        rfl
    | _ => cases h
def allD (g : List Bool → Bool) (r : Rho) : List D → R D
  | [d] => match viewL r d with
    | some ds => (match boolsOf ds with
      | some bs => .ok (.bl (g bs))
      | none => .stuck)
    | none => .stuck
  | _ => .stuck
theorem all_core {mg : Str → Option Value} {E : WX} {g : List Bool → Bool} {T : Stt} {s : St} {H : Hp} {xs : List V} {ds : List D} {Q : VK} (R : Rl K T s H) (rs : RpL K T.G s xs ds)
    (h : KE K mg E T s H (fun d G' H' => ∀ v, RpE K G' s v d → Q v H') (allD g T.r ds)) : ∃ (a : Addr) (bs : List Bool), xs = [.ref a] ∧ SqL K H a (bs.map V.bl) ∧ Q (.bl (g bs)) H := by
  cases rs with
  | nil => exact h.elim
  | @cons v vs d ds rv rr =>
    cases rr with
    | cons _ _ => exact h.elim
    | nil =>
      simp only [allD] at h
      cases e : viewL T.r d with
      | none => rw [e] at h; exact h.elim
      | some es =>
        rw [e] at h
        simp only at h
        cases e2 : boolsOf es with
        | none => rw [e2] at h; exact h.elim
        | some bs =>
          rw [e2] at h
          obtain ⟨a, xs, rfl, hq, hr⟩ := viewL_ok R rv e
          have ex := boolsOf_ok e2 hr
          subst ex
          exact ⟨a, bs, rfl, SqL.of hq, fin (.bl _) h R (Rp.bl _)⟩
theorem cs_all : CallS K (rAll K) (allD fun bs => bs.all id) := fun mg E T s H xs ds Q R rs h => all_core R rs h
theorem cs_any : CallS K (rAny K) (allD fun bs => bs.any id) := fun mg E T s H xs ds Q R rs h => all_core R rs h
end
end PL
end
section
namespace PL
open PySem PySem.Spec PyProof.Rows L2
def isTy : D → String → Bool
  | .non, _ => false
  | .bl _, t => t == "bool" || t == "int"
  | .int _, t => t == "int"
  | .str _, t => t == "str"
  | .tup _, t => t == "tuple"
  | .tpn _, t => t == "tuple"
  | .lst _, t => t == "list"
  | .scr _, t => t == "list"
  | .own _, t => t == "list"
  | .dic _, t => t == "dict"
  | _, _ => false
def tyN : D → String
  | .non => "NoneType"
  | .bl _ => "bool"
  | .int _ => "int"
  | .str _ => "str"
  | .tup _ => "tuple"
  | .tpn _ => "tuple"
  | .lst _ => "list"
  | .scr _ => "list"
  | .own _ => "list"
  | .dic _ => "dict"
  | _ => "NoneType"
def tys : List String := ["int", "bool", "str", "tuple", "list"]
theorem kit_all (t : String) (h : t ∈ tys) (d : D) : kitB (tyN d) t = some (isTy d t) := by
  have z : ∀ n ∈ ["NoneType", "bool", "int", "str", "tuple", "list", "dict"], ∀ t ∈ tys, kitB n t = some (match n with
      | "bool" => t == "bool" || t == "int"
      | "int" => t == "int"
      | "str" => t == "str"
      | "tuple" => t == "tuple"
      | "list" => t == "list"
      | "dict" => t == "dict"
      | _ => false) := by decide +kernel
  cases d
  · exact z "NoneType" (by decide) t h
  · exact z "bool" (by decide) t h
  · exact z "int" (by decide) t h
  · exact z "str" (by decide) t h
  · exact z "tuple" (by decide) t h
  · exact z "list" (by decide) t h
  · exact z "dict" (by decide) t h
  · exact z "list" (by decide) t h
  · exact z "list" (by decide) t h
  · exact z "tuple" (by decide) t h
  · exact z "NoneType" (by decide) t h
  · exact z "NoneType" (by decide) t h
  · exact z "NoneType" (by decide) t h
  · exact z "NoneType" (by decide) t h
def basicD : D → Bool
  | .exc _ => false
  | .fn _ => false
  | .obj _ => false
  | .tpo _ => false
  | _ => true
section
variable {K : PySem.W.Frag} {E : WX}
theorem tyx_of {T : Stt} {s : St} {H : Hp} {v : V} {d : D} (R : Rl K T s H) (rv : RpE K T.G s v d) (hb : basicD d = true) (ow : ∀ i, d = .own i → ∃ ds, T.r[i]? = some (.ol ds)) : TyX K H v (.type (tyN d)) := by
  have gl : ∀ {a : Addr} {xs : List V}, SqL K H a xs → TyX K H (.ref a) (.type "list") := fun {a xs} h => by
    rcases h with (h | ⟨o, h⟩) | ⟨o, its, n, h, hc, _⟩
    · exact .base (.lst h)
    · exact .base (.frz h)
    · exact .kList h hc
  cases d with
  | own i =>
    obtain ⟨ds, e⟩ := ow i rfl
    obtain ⟨a, xs, e1, e2, e3⟩ := own_list R rv e
    subst e1
    exact gl (SqL.of e2)
  | non => cases (show Rp K T.G v .non from rv); exact .base .non
  | bl b => cases (show Rp K T.G v (.bl b) from rv); exact .base (.bl _)
  | int b => cases (show Rp K T.G v (.int b) from rv); exact .base (.int _)
  | str b => cases (show Rp K T.G v (.str b) from rv); exact .base (.str _)
  | tup b =>
    cases (show Rp K T.G v (.tup b) from rv) with
    | tup h1 h2 =>
      have h3 := R.sqt h1
      rcases h3 with (h | ⟨o, h⟩) | ⟨o, its, n, h, hc, _⟩
      · exact .base (.tup h)
      · exact .fTuple h
      · exact .kTuple h hc
  | lst b =>
    cases (show Rp K T.G v (.lst b) from rv) with
    | lst h1 h2 => exact gl (SqL.of (R.at h1 rfl))
  | tpn b =>
    cases (show Rp K T.G v (.tpn b) from rv) with
    | tpn h1 h2 h3 => exact .fTuple (R.at h1 rfl)
  | scr b =>
    cases (show Rp K T.G v (.scr b) from rv) with
    | scr h1 => exact gl (R.sql h1)
  | dic b =>
    cases (show Rp K T.G v (.dic b) from rv) with
    | dic h1 h2 => exact .fDict (R.at h1 rfl)
  | _ => cases hb
def ownL (r : Rho) : D → Bool
  | .own i => match r[i]? with
    | some (.ol _) => true
    | _ => false
  | .exc _ => false
  | .fn _ => false
  | .obj _ => false
  | .tpo _ => false
  | _ => true
theorem ownL_basic {r : Rho} {d : D} (h : ownL r d = true) : basicD d = true := by
  cases d <;> first | rfl | cases h
theorem ownL_ok {r : Rho} {d : D} (h : ownL r d = true) : ∀ i, d = .own i → ∃ ds, r[i]? = some (.ol ds) := fun i e => by
  subst e
  simp only [ownL] at h
  cases q : r[i]? with
  | none => rw [q] at h; cases h
  | some x =>
    rw [q] at h
    cases x with
    | ol ds => exact ⟨ds, rfl⟩
    | _ => cases h
end
def fIsi (ts : List String) (fa : Rho → R D) (r : Rho) : R D := (fa r).bnd fun d => if ownL r d then .ok (.bl (ts.any fun t => isTy d t)) else .stuck
section
variable {X : Cx} {E : WX} {a b c : Expr} {fa fb fc : Rho → R D} {pos p p2 p3 p4 : Pos} {es : List Expr} {fs : Rho → R (List D)} {x tn tn2 : Str} {e : Expr}
theorem ev_isi (T : String) (ht : T ∈ tys) (hg : Gl X "isinstance") (hm : X.mg "isinstance" = none) (hgT : Gl X tn) (hmT : X.mg tn = none) (hv : bootBuiltins tn = some (.type T)) (ha : EV X E a fa) (hn : tn ≠ "__name__" := by decide) (hd : (tn == ("__debug__" : Str)) = false := by decide)
    (hs : starEach [a, .Name tn p2] X.env = (false, eval a X.env) :: starEach [.Name tn p2] X.env := by rfl) : EV X E (.Call (.Name "isinstance" p) [a, .Name tn p2] [] pos) (fIsi [T] fa) := by
  refine pe_imp (pe_callB call_isi hg hm (by decide +kernel) (pa_cons ha (pa_cons (pe_bltn (v := .ty T) hgT hmT hv rfl hn hd) pa_nil) hs) (he := hs)) fun s H Q ⟨T1, R, h⟩ => ⟨T1, R, KE.bnd h fun d G1 H1 _ eg eh R1 h1 v rv => ?_⟩
  cases e : ownL T1.r d with
  | false => rw [e] at h1; exact h1.elim
  | true =>
    rw [e] at h1
    refine ⟨v, .ty T, _, .type T, isTy d T, rfl, .ty T, tyx_of (T := { T1 with G := G1 }) R1 rv (ownL_basic e) (ownL_ok e), kit_ty (kit_all T ht d), ?_⟩
    have e2 : ([T].any fun t => isTy d t) = isTy d T := by simp
    rw [← e2]
    exact fin (T := { T1 with G := G1 }) (.bl _) h1 R1 (Rp.bl _)
theorem ev_isi2 (T T2 : String) (ht : T ∈ tys) (ht2 : T2 ∈ tys) (hg : Gl X "isinstance") (hm : X.mg "isinstance" = none) (hgT : Gl X tn) (hmT : X.mg tn = none) (hv : bootBuiltins tn = some (.type T)) (hgT2 : Gl X tn2) (hmT2 : X.mg tn2 = none) (hv2 : bootBuiltins tn2 = some (.type T2)) (ha : EV X E a fa) (hn : tn ≠ "__name__" := by decide) (hd : (tn == ("__debug__" : Str)) = false := by decide)
    (hn2 : tn2 ≠ "__name__" := by decide) (hd2 : (tn2 == ("__debug__" : Str)) = false := by decide) {x1 : Nat}
    (hs : starEach [a, .Tuple [.Name tn p2, .Name tn2 p3] x1 p4] X.env = (false, eval a X.env) :: starEach [.Tuple [.Name tn p2, .Name tn2 p3] x1 p4] X.env := by rfl) : EV X E (.Call (.Name "isinstance" p) [a, .Tuple [.Name tn p2, .Name tn2 p3] x1 p4] [] pos) (fIsi [T, T2] fa) := by
  refine pe_imp (pe_callB call_isiT hg hm (by decide +kernel) (pa_cons ha (pa_cons (pe_tup (pa_cons (pe_bltn (v := .ty T) hgT hmT hv rfl hn hd) (pa_cons (pe_bltn (v := .ty T2) hgT2 hmT2 hv2 rfl hn2 hd2) pa_nil))) pa_nil) hs) (he := hs)) fun s H Q ⟨T1, R, h⟩ => ⟨T1, R, KE.bnd h fun d G1 H1 _ eg eh R1 h1 v rv => ?_⟩
  cases e : ownL T1.r d with
  | false => rw [e] at h1; exact h1.elim
  | true =>
    rw [e] at h1
    refine ⟨by show 2 ≤ sizeLine; decide, fun t ht3 => ?_⟩
    have R2 : Rl X.K { T1 with G := G1 } s (upd H1 t (.tup [.ty T, .ty T2])) := Rel.lay R1 ht3
    refine ⟨v, t, [.ty T, .ty T2], _, [.type T, .type T2], ([T, T2].any fun t => isTy d t), rfl, upd_same, .cons (.ty T) (.cons (.ty T2) .nil), tyx_of (T := { T1 with G := G1 }) R2 rv (ownL_basic e) (ownL_ok e), ?_, ?_⟩
    · have k1 := kit_ty (K := X.K) (kit_all T ht d)
      have k2 := kit_ty (K := X.K) (kit_all T2 ht2 d)
      unfold PySem.W.kitAny
      rw [k1]
      cases q : isTy d T with
      | true => simp [q]
      | false =>
        show PySem.W.kitAny X.K _ [Value.type T2] = _
        unfold PySem.W.kitAny
        rw [k2]
        cases q2 : isTy d T2 with
        | true => simp [q, q2]
        | false => simp [q, q2, PySem.W.kitAny]
    · have h2 : KE X.K X.mg E { T1 with G := G1 } s H1 (fun d G' H' => ∀ v, RpE X.K G' s v d → Q v H') (.ok (.bl ([T, T2].any fun t => isTy d t))) := h1
      exact h2 G1 _ (Same.refl _) (ex_new ht3) (Nw.refl _ _) R2 _ (Rp.bl _)
def tO (K : PySem.W.Frag) (mg : Str → Option Value) (E : WX) (f : Rho → R (Option Int)) : TO := fun s H Q => ∃ T, Rl K T s H ∧ KE K mg E T s H (fun o _ H' => Q o H') (f T.r)
theorem po_imp {X : Cx} {e : Option Expr} {t t' : TO} (h : PO X e t) (i : ∀ s H Q, t' s H Q → t s H Q) : PO X e t' := ⟨fun pins s σ H Q I q => h.run pins s σ H Q I (i _ _ _ q)⟩
def EO (X : Cx) (E : WX) (e : Option Expr) (f : Rho → R (Option Int)) : Prop := PO X e (tO X.K X.mg E f)
def intOf : D → R (Option Int)
  | .int i => .ok (some i)
  | _ => .stuck
theorem eo_none : EO X E none (fun _ => .ok none) := po_imp po_none fun s H Q ⟨T, R, h⟩ => KE.here h R
theorem eo_some (ha : EV X E a fa) : EO X E (some a) (fun r => (fa r).bnd intOf) :=
  po_imp (po_some ha) fun s H Q ⟨T, R, h⟩ => ⟨T, R, KE.bnd h fun d G1 H1 _ eg eh R1 h1 v rv => by
    cases d with
    | int i =>
      cases (show Rp X.K G1 v (.int i) from rv)
      exact ⟨i, rfl, KE.here (T := { T with G := G1 }) h1 R1⟩
    | _ => exact h1.elim⟩
def cut {α : Type} (xs : List α) (lo hi : Option Int) : List α := (xs.drop (HT.sIx xs.length 0 lo)).take (HT.sIx xs.length xs.length hi - HT.sIx xs.length 0 lo)
theorem RpA.cut {K : PySem.W.Frag} {G : Hp} {xs : List V} {ds : List D} (r : RpA K G xs ds) (lo hi : Option Int) : RpA K G (cutV xs lo hi) (cut ds lo hi) := by
  unfold cutV PL.cut
  rw [r.length]
  exact (r.drop _).take _
def slD (r : Rho) (x : D) (lo hi : Option Int) : R D := match x with
  | .tup ds => .ok (.tup (cut ds lo hi))
  | .str z => if decide (z.length ≤ sizeLine) then .ok (.str (cutS z lo hi)) else .stuck
  | x => match viewL r x with
    | some ds => .ok (.lst (cut ds lo hi))
    | none => .stuck
abbrev rSlD (K : PySem.W.Frag) : V → Option Int → Option Int → Hp → VK → Prop := fun x lo hi H Q => rSlA K x lo hi H Q ∨ rSlS x lo hi H Q ∨ rSlL K x lo hi H Q
theorem sl_D : SlR X (rSlD X.K) := sl_tupA.or (sl_str.or sl_list)
theorem cut_whole {α : Type} {xs : List α} {lo hi : Option Int} (h : HT.sIx xs.length 0 lo = 0 ∧ HT.sIx xs.length xs.length hi = xs.length) : cut xs lo hi = xs := by
  unfold cut
  rw [h.1, h.2]
  simp
theorem slS_ok {K : PySem.W.Frag} {mg : Str → Option Value} {T : Stt} {s : St} {H : Hp} {x : V} {dx : D} {lo hi : Option Int} {Q : VK} (R : Rl K T s H) (rx : RpE K T.G s x dx) (h : KE K mg E T s H (fun d G' H' => ∀ v, RpE K G' s v d → Q v H') (slD T.r dx lo hi)) : rSlD K x lo hi H Q := by
  have lists : KE K mg E T s H (fun d G' H' => ∀ v, RpE K G' s v d → Q v H') (match viewL T.r dx with | some ds => .ok (.lst (cut ds lo hi)) | none => .stuck) → rSlD K x lo hi H Q := fun hk => by
    cases e : viewL T.r dx with
    | none => rw [e] at hk; exact hk.elim
    | some es =>
      rw [e] at hk
      obtain ⟨a, xs, rfl, hq, hr⟩ := viewL_ok R rx e
      exact .inr (.inr ⟨a, xs, rfl, SqL.of hq, fun l hl => finNew (.lst _) hk R hl (Rp.lst upd_same ((hr.cut lo hi).mono (ex_new (R.gf _ hl))))⟩)
  cases dx with
  | tup ds =>
    obtain ⟨p, xs, rfl, hp0, hp, hr⟩ := tup_ok R rx
    refine .inl ⟨p, xs, rfl, hp, fun z => ?_, fun z t ht => ?_⟩
    · rw [hr.length] at z
      have h2 : KE K mg E T s H (fun d G' H' => ∀ v, RpE K G' s v d → Q v H') (.ok (.tup (cut ds lo hi))) := h
      rw [cut_whole z] at h2
      exact fin (.tup ds) h2 R (Rp.tup hp0 hr)
    · exact finNew (.tup _) h R ht (Rp.tup (SqT.of upd_same) ((hr.cut lo hi).mono (ex_new (R.gf _ ht))))
  | str z =>
    cases (show Rp K T.G x (.str z) from rx)
    have h2 : KE K mg E T s H (fun d G' H' => ∀ v, RpE K G' s v d → Q v H') (if decide (z.length ≤ sizeLine) then .ok (.str (cutS z lo hi)) else .stuck) := h
    cases e : decide (z.length ≤ sizeLine) with
    | false => rw [e] at h2; exact h2.elim
    | true =>
      rw [e] at h2
      exact .inr (.inl ⟨z, rfl, of_decide_eq_true e, fin (.str _) h2 R (Rp.str _)⟩)
  | _ => exact lists h
def fSl (fa : Rho → R D) (fl fh : Rho → R (Option Int)) (r : Rho) : R D := (fa r).bnd fun x => (fl r).bnd fun lo => (fh r).bnd fun hi => slD r x lo hi
theorem ev_slice {lo hi : Option Expr} {fl fh : Rho → R (Option Int)} (ha : EV X E a fa) (hl : EO X E lo fl) (hh : EO X E hi fh) : EV X E (.Subscript a (.Slice lo hi none p2) pos) (fSl fa fl fh) :=
  pe_imp (pe_slice sl_D ha hl hh) fun s H Q ⟨T, R, h⟩ => ⟨T, R, KE.bnd h fun d G1 H1 _ eg eh R1 h1 v rv =>
    ⟨{ T with G := G1 }, R1, KE.bnd h1 fun o G2 H2 _ eg2 eh2 R2 h2 => ⟨{ T with G := G2 }, R2, KE.bnd h2 fun o2 G3 H3 _ eg3 eh3 R3 h3 => slS_ok (T := { T with G := G3 }) R3 ((rv.mono eg2).mono eg3) h3⟩⟩⟩
def negD : D → R D
  | .int i => .ok (.int (-i))
  | _ => .stuck
def fNeg (fa : Rho → R D) (r : Rho) : R D := (fa r).bnd negD
theorem ev_neg (ha : EV X E a fa) : EV X E (.UnaryOp .USub a pos) (fNeg fa) :=
  pe_imp (pe_un un_neg ha) fun s H Q ⟨T, R, h⟩ => ⟨T, R, KE.bnd h fun d G1 H1 _ eg eh R1 h1 v rv => by
    cases d with
    | int i =>
      cases (show Rp X.K G1 v (.int i) from rv)
      exact ⟨i, rfl, fin (T := { T with G := G1 }) (.int _) h1 R1 (Rp.int _)⟩
    | _ => exact h1.elim⟩
end
def Post (K : PySem.W.Frag) (G H : Hp) (d : D) (Q : VK) : Prop := ∀ v G' H', Ex G G' → Ex H H' → Ex G' H' → (∀ a o, G' a = some o → isMk o = false) → (∀ a o, G' a = some o → G a = none → H a = none) → Rp K G' v d → Q v H'
def spF (K : PySem.W.Frag) (mg : Str → Option Value) (n : Nat) (F : List D → R D) : Sp := fun vs H Q E => ∃ G ds, Ex G H ∧ (∀ a o, G a = some o → isMk o = false) ∧ RpA K G vs ds ∧ ds.length = n ∧ (match F ds with
  | .ok d => Post K G H d Q
  | .err c => ∀ H', Ex H H' → E (clsV mg c) none H'
  | .stuck => False)
structure Fn (P : Program) (w : World) (K : PySem.W.Frag) (mg : Str → Option Value) (base : Heap) (k : Nat) (x : Str) (n : Nat) (F : List D → R D) : Prop where
  ex : ∃ f fd ps, mg x = some (.ref f) ∧ PySem.W.keepIn K (.ref f) = true ∧ Binds K fd ps [] ∧ FnOk P w K mg base (L2.CX P w) k f fd ps (spF K mg n F)
section
variable {X : Cx} {E : WX} {a b c : Expr} {fa fb fc : Rho → R D} {pos p p2 p3 p4 : Pos} {es : List Expr} {fs : Rho → R (List D)} {x tn tn2 : Str} {e : Expr}
theorem passZ {X : Cx} : ∀ σ, PassesAt (L2.CX X.prog X.w) X σ (WE EZ σ) := fun _ _ _ _ _ _ _ h => by
  obtain ⟨_, _, _, _, _, _, _, _, _, _, _, _, z⟩ := h
  exact z.elim
def fCall (n : Nat) (F : List D → R D) (fs : Rho → R (List D)) (r : Rho) : R D := (fs r).bnd fun ds => if ds.length == n then F ds else .stuck
def gUn (G G' : Hp) : Hp := fun a => match G a with
  | some o => some o
  | none => G' a
theorem gUn_l (G G' : Hp) : Ex G (gUn G G') := fun a o h => by
  unfold gUn
  rw [h]
theorem gUn_r {G0 H0 G H G' : Hp} {K : PySem.W.Frag} {r : Rho} {s : St} (R : Rel K G0 H0 r s G H) (eg : Ex (um G) G') (nw : ∀ a o, G' a = some o → um G a = none → H a = none) : Ex G' (gUn G G') := fun a o h => by
  unfold gUn
  cases e : G a with
  | none => exact h
  | some u =>
    show some u = some o
    cases m : isMk u with
    | false =>
      have z := eg _ _ (um_of e m)
      rw [h] at z
      exact z.symm
    | true =>
      have z : um G a = none := by
        unfold um
        rw [e]
        simp [m]
      have z2 := R.gf a (nw a o h z)
      rw [e] at z2
      cases z2
theorem gUn_step {K : PySem.W.Frag} {G0 H0 G H G' H' : Hp} {r : Rho} {s : St} (R : Rel K G0 H0 r s G H) (eg : Ex (um G) G') (eh : Ex H H') (gh : Ex G' H') (no : ∀ a o, G' a = some o → isMk o = false) (nw : ∀ a o, G' a = some o → um G a = none → H a = none) :
    Nw G (gUn G G') H ∧ Rel K G0 H0 r s (gUn G G') H' := by
  have n : Nw G (gUn G G') H := by
    refine ⟨fun a o q z => ?_, fun a o q m => ?_⟩
    · unfold gUn at q
      rw [z] at q
      exact nw a o q (um_none z)
    · unfold gUn at q
      cases e : G a with
      | some u => rw [e] at q; exact q
      | none =>
        rw [e] at q
        rw [no a o q] at m
        cases m
  refine ⟨n, R.step (gUn_l G G') eh (fun a o q => ?_) n⟩
  obtain ⟨q, m⟩ := um_is q
  unfold gUn at q
  cases e : G a with
  | some u =>
    rw [e] at q
    cases q
    exact gh _ _ (eg _ _ (um_of e m))
  | none =>
    rw [e] at q
    exact gh _ _ q
theorem sp_red {K : PySem.W.Frag} {mg : Str → Option Value} {T : Stt} {s : St} {H : Hp} {Q : VK} {F : List D → R D} {n : Nat} {vs : List V} {ds : List D} (R : Rl K T s H) (r : RpA K T.G vs ds) (hn : ds.length = n) (h : KE K mg E T s H (fun d G' H' => ∀ v, RpE K G' s v d → Q v H') (F ds)) : spF K mg n F vs H Q (WE E s) := by
  refine ⟨um T.G, ds, R.gh, fun a o q => (um_is q).2, r.um, hn, ?_⟩
  cases e : F ds with
  | ok d =>
    rw [e] at h
    intro v G' H' a b c no nw rv
    obtain ⟨n, R'⟩ := gUn_step R a b c no nw
    exact h _ H' (gUn_l _ _) b n R' v (rv.mono (gUn_r R a nw)).e
  | err c =>
    rw [e] at h
    exact fun H' eh => h H' (R.hh.trans eh) eh
  | stuck => rw [e] at h; exact h
theorem ev_call {k kx n : Nat} {F : List D → R D} (hF : Fn X.prog X.w X.K X.mg X.base k x n F) (hr : Room kx X.A) (hx : ∀ σ, PassesAt (L2.CX X.prog X.w) X σ (WE E σ)) (hg : Gl X x) (ha : EA X E (e :: es) fs) (hk : k ≤ kx := by decide)
    (hdb : (x == ("__debug__" : Str)) = false := by decide) (he : starEach (e :: es) X.env = (false, eval e X.env) :: starEach es X.env := by rfl) (hpl : (backTo pos (starEach es X.env)).any (·.1) = false := by rfl) : EV X E (.Call (.Name x p) (e :: es) [] pos) (fCall n F fs) := by
  obtain ⟨f, fd, ps, hm, hkp, hb, ok⟩ := hF.ex
  refine pe_imp (pe_callS (E := WE E) ok (hr.mono hk) hg hm hkp hb hx ha hdb he hpl) fun s H Q ⟨T, R, h⟩ => ⟨T, R, KE.bnd h fun ds G1 H1 ed eg eh R1 h1 vs rvs => ?_⟩
  show spF X.K X.mg n F vs H1 Q (WE E s)
  cases el : (ds.length == n) with
  | false => rw [el] at h1; exact h1.elim
  | true =>
    rw [el] at h1
    exact sp_red (T := { T with G := G1 }) R1 rvs (by simpa using el) h1
end
end PL
end
section
namespace PL
open PySem PySem.Spec PyProof.Rows L2
def SqB (K : PySem.W.Frag) (b : Bool) (H : Hp) (a : Addr) (xs : List V) : Prop := if b = true then SqT K H a xs else SqL K H a xs
def ItB (b : Bool) (h : Heap) (it a : Addr) (i : Nat) : Prop := match b with
  | true => h.IsTupleIter it a i
  | false => h.IsListIter it a i
def IsB (b : Bool) (h : Heap) (a : Addr) (xs : Array Value) : Prop := match b with
  | true => h.IsTuple a xs
  | false => h.IsList a xs
def oB (b : Bool) (a : Addr) : Obj := match b with
  | true => { cls := .type "tuple_iterator", data := .fields #[.ref a, .int 0 0] }
  | false => { cls := .type "list_iterator", data := .fields #[.ref a, .int 0 0] }
theorem ItB.at {b : Bool} {h h' : Heap} {it a : Addr} {i : Nat} (x : ItB b h it a i) (k : ∀ o, h.get? it = some o → h'.get? it = some o) : ItB b h' it a i := by
  cases b with
  | true => exact Heap.IsTupleIter.at x k
  | false => exact Heap.IsListIter.at x k
theorem ItB.obj {b : Bool} {h : Heap} {it a : Addr} {i : Nat} (x : ItB b h it a i) : ∃ o, h.get? it = some o ∧ ∀ (v : Option Value), o.data ≠ Data.cell v := by
  cases b with
  | true =>
    obtain ⟨o, e, _, d⟩ := x
    exact ⟨o, e, fun v q => by rw [d] at q; cases q⟩
  | false =>
    obtain ⟨o, e, _, d⟩ := x
    exact ⟨o, e, fun v q => by rw [d] at q; cases q⟩
theorem ItB.new {b : Bool} {h : Heap} {it a : Addr} (x : h.get? it = some (oB b a)) : ItB b h it a 0 := by
  cases b with
  | true => exact ⟨_, x, rfl, rfl⟩
  | false => exact ⟨_, x, rfl, rfl⟩
theorem drawsB {prog : Program} {w : World} {A : Around} (b : Bool) (hh : A.handled = none) (it a : Addr) (hne : a ≠ it) (items : Array Value) :
    Draws prog w A it [it, a] items.size (fun i v => items[i]? = some v) (fun i h => ItB b h it a i ∧ IsB b h a items) := by
  cases b with
  | true => exact Draws.tuple hh it a hne items
  | false => exact Draws.list hh it a hne items
theorem beginsB (b : Bool) (a : Addr) (items : Array Value) : Begins (.ref a) (oB b a) fun h => IsB b h a items := by
  cases b with
  | true => exact begins_tuple a items
  | false => exact begins_list a items
theorem sideB {X : Cx} {pins : List (Addr × Obj)} {s : St} {H : Hp} {sh : Shared} {b : Bool} {a : Addr} {xs : List V} (I : L2.Inv X pins s H sh) (h : SqB X.K b H a xs) : ∃ its, Vals xs its ∧ IsB b sh.heap a its.toArray ∧ a < sh.heap.objs.size := by
  cases b with
  | true =>
    obtain ⟨its, rv, p, _⟩ := I.tuple h
    obtain ⟨o, ho, _⟩ := id p
    exact ⟨its, rv, p, Heap.lt_size ho⟩
  | false =>
    obtain ⟨its, rv, p, _⟩ := I.list h
    exact ⟨its, rv, p.isList, p.lt⟩
theorem injB {X : Cx} {pins : List (Addr × Obj)} {s : St} {H : Hp} {sh : Shared} {b : Bool} {a : Addr} {xs ys : List V} (I : L2.Inv X pins s H sh) (h : SqB X.K b H a xs) (h' : SqB X.K b H a ys) : xs = ys := by
  cases b with
  | true => exact I.tuple_inj h h'
  | false => exact I.list_inj h h'
def ItzM (K : PySem.W.Frag) (b1 b2 : Bool) (a b : Addr) : It :=
  ⟨fun i H => ∃ (xs ys : List V) (x y : V), SqB K b1 H a xs ∧ SqB K b2 H b ys ∧ xs[i]? = some x ∧ ys[i]? = some y,
    fun i H v H' => ∃ T x y, v = .ref T ∧ H T = none ∧ H' = upd H T (.tup [x, y]) ∧ (∀ xs, SqB K b1 H a xs → xs[i]? = some x) ∧ ∀ ys, SqB K b2 H b ys → ys[i]? = some y,
    fun i H => ∃ xs ys : List V, SqB K b1 H a xs ∧ SqB K b2 H b ys ∧ i ≤ xs.length ∧ i ≤ ys.length ∧ (i = xs.length ∨ i = ys.length)⟩
theorem apart_sep {z TI TO i1 i2 a b : Addr} (D : ZipApart z TI TO i1 i2 a b) : ZipSep2 z TI TO i1 i2 [i1, a] [i2, b] where
  TIz := D.TIz
  TOz := D.TOz
  TITO := D.TITO
  TIi1 := D.TIi1
  mem1 := by simp
  zf1 := by simp [D.i1z.symm, D.l1z.symm]
  Tf1 := by simp [D.TOi1, D.l1TO.symm]
  TIi2 := D.TIi2
  mem2 := by simp
  zf2 := by simp [D.i2z.symm, D.l2z.symm]
  Tf2 := by simp [D.TOi2, D.l2TO.symm]
  sep1_2 := by simp [D.i12, D.l2i1.symm]
  sep2_1 := by simp [D.i12.symm, D.l1i2.symm]
theorem turn_zipM {P : Program} {w : World} {K : PySem.W.Frag} {elts : List Expr} {kk : Nat} {tpos : Pos} {b1 b2 : Bool} {a b z TI TO i1 i2 : Addr} (D : ZipApart z TI TO i1 i2 a b) :
    Turn P w K (.Tuple elts kk tpos) (ItzM K b1 b2 a b) [z, TI, TO, i1, i2] z (fun i h => IsZip h z TI TO .none ∧ IsPair h TI (.ref i1) (.ref i2) ∧ (∃ x y, IsPair h TO x y) ∧ ItB b1 h i1 a i ∧ ItB b2 h i2 b i) where
  mem := by simp
  obj := fun i h st c hc => by
    obtain ⟨hz, hTI, ⟨x, y, hTO⟩, h1, h2⟩ := st
    have e' : c = z ∨ c = TI ∨ c = TO ∨ c = i1 ∨ c = i2 := by simpa using hc
    rcases e' with q | q | q | q | q
    · rw [q]; exact ⟨_, hz, fun v q => nomatch q⟩
    · rw [q]; exact ⟨_, hTI, fun v q => nomatch q⟩
    · rw [q]; exact ⟨_, hTO, fun v q => nomatch q⟩
    · rw [q]; exact h1.obj
    · rw [q]; exact h2.obj
  keep := fun i h h' st k => by
    obtain ⟨hz, hTI, ⟨x, y, hTO⟩, h1, h2⟩ := st
    exact ⟨k z (by simp) _ hz, k TI (by simp) _ hTI, ⟨x, y, k TO (by simp) _ hTO⟩, h1.at fun o q => k i1 (by simp) o q, h2.at fun o q => k i2 (by simp) o q⟩
  item := by
    intro X hP hw hK hc i pins s σ H E I hf st hg
    subst hP hw hK
    obtain ⟨hz, hTI, ⟨x0, y0, hTO⟩, h1, h2⟩ := st
    obtain ⟨xs, ys, x, y, hqx, hqy, hx, hy⟩ := hg
    obtain ⟨its, rv, p, _⟩ := sideB I hqx
    obtain ⟨its2, rv2, p2, _⟩ := sideB I hqy
    obtain ⟨u, hu, ru⟩ := rv.get hx
    obtain ⟨u2, hu2, ru2⟩ := rv2.get hy
    have hzl : z < s.heap.objs.size := Heap.lt_size hz
    have lt1 : i < its.toArray.size := by
      have := (List.getElem?_eq_some_iff.mp hu).1
      simpa using this
    have lt2 : i < its2.toArray.size := by
      have := (List.getElem?_eq_some_iff.mp hu2).1
      simpa using this
    refine wpAny_pyNext_zipD2_item (apart_sep D) (drawsB b1 (A := X.A.in1) (I.ok.hd hc) i1 a D.l1i1 its.toArray) (drawsB b2 (A := X.A.in1) (I.ok.hd hc) i2 b D.l2i2 its2.toArray) hz hTI hTO ⟨h1, p⟩ ⟨h2, p2⟩ lt1 lt2 fun w1 w2 h' tk e1 e2 z' TO' h1' h2' hT hsz hk => ?_
    have ew1 : w1 = u := by
      have : its[i]? = some w1 := by simpa using e1
      rw [hu] at this
      exact (Option.some.inj this).symm
    have ew2 : w2 = u2 := by
      have : its2[i]? = some w2 := by simpa using e2
      rw [hu2] at this
      exact (Option.some.inj this).symm
    subst ew1 ew2
    refine ⟨_, rfl, wpAny_letOwnedTupleGo_zip (s := { s with heap := h', toks := tk }) z' fun h'' z'' sb => ?_⟩
    have hT2 : h''.get? s.heap.objs.size = some { cls := .type "tuple", data := .seq #[w1, w2] } := (sb.2 _ (Nat.ne_of_gt hzl)).trans hT
    have new : ObjOk X.prog X.w (upd H s.heap.objs.size (.tup [x, y])) h'' s.heap.objs.size (.tup [x, y]) :=
      ⟨by show 2 ≤ sizeLine; decide, [w1, w2], .cons ru (.cons ru2 .nil), ⟨_, hT2, rfl, _, rfl⟩⟩
    have I1 : L2.Inv X pins σ (upd H s.heap.objs.size (.tup [x, y])) { s with heap := h'', toks := tk } :=
      I.turnedNew (t' := tk) (ch := [z, TI, TO, i1, i2]) (fun c o hb q => (sb.2 c (fun q' => hb (by simp [q']))).trans (hk c o (fun q' => hb (by simp [q'])) (fun q' => hb (by simp [q'])) (fun q' => hb (by simp [q'])) (fun q' => hb (by simp [q'])) q)) hf (Nat.le_refl _) new
    refine ⟨.ref s.heap.objs.size, _, I1, rfl, ⟨_, x, y, rfl, I.hok.fresh (Nat.le_refl _), rfl, fun l hl => by rw [injB I hl hqx]; exact hx, fun l hl => by rw [injB I hl hqy]; exact hy⟩, ⟨z'', ?_, ⟨w1, w2, ?_⟩, ?_, ?_⟩, fun c hcm => ?_⟩
    · exact (sb.2 _ D.TIz).trans (hk _ _ D.TIz D.TITO D.TIi1 D.TIi2 hTI)
    · exact (sb.2 _ D.TOz).trans TO'
    · exact h1'.1.at fun o q => (sb.2 _ D.i1z).trans q
    · exact h2'.1.at fun o q => (sb.2 _ D.i2z).trans q
    · have hlt : c < s.heap.objs.size := by
        have e' : c = z ∨ c = TI ∨ c = TO ∨ c = i1 ∨ c = i2 := by simpa using hcm
        rcases e' with q | q | q | q | q
        · rw [q]; exact hzl
        · rw [q]; exact Heap.lt_size hTI
        · rw [q]; exact Heap.lt_size hTO
        · rw [q]; obtain ⟨_, e1, _⟩ := h1.obj; exact Heap.lt_size e1
        · rw [q]; obtain ⟨_, e2, _⟩ := h2.obj; exact Heap.lt_size e2
      rw [upd_ne (Nat.ne_of_lt hlt)]
      exact (hf c hcm).1
  done := by
    intro X hP hw hK hc i pins s σ H E I hf st hg
    subst hP hw hK
    obtain ⟨hz, hTI, ⟨x0, y0, hTO⟩, h1, h2⟩ := st
    obtain ⟨xs, ys, hqx, hqy, g1, g2, hend⟩ := hg
    obtain ⟨its, rv, p, _⟩ := sideB I hqx
    obtain ⟨its2, rv2, p2, _⟩ := sideB I hqy
    have l1 := rv.length
    have l2 := rv2.length
    exact wpAny_pyNext_zipD2_end (apart_sep D) (drawsB b1 (A := X.A.in1) (I.ok.hd hc) i1 a D.l1i1 its.toArray) (drawsB b2 (A := X.A.in1) (I.ok.hd hc) i2 b D.l2i2 its2.toArray) hz hTI hTO ⟨h1, p⟩ ⟨h2, p2⟩ (by simp; omega) (by simp; omega) (by simp; omega) fun h' tk hk => ⟨rfl, I.turnedL (t' := tk) (ch := [z, TI, TO, i1, i2]) (fun c o hb q =>
      hk c o (fun q' => hb (by simp [q'])) (fun q' => hb (by simp [q'])) (fun q' => hb (by simp [q'])) (fun q' => hb (by simp [q'])) q) hf⟩
  self := fun A i s Q E st h => wpAny_pyIter_zip st.1 h
def iZipM (K : PySem.W.Frag) (ta : TA) : TI := fun σ H R => ta σ H fun vs H1 => ∃ b1 b2 a b xs ys, vs = [.ref a, .ref b] ∧ SqB K b1 H1 a xs ∧ SqB K b2 H1 b ys ∧ R (ItzM K b1 b2 a b) H1
theorem pi_zipM {X : Cx} {e e2 : Expr} {ta : TA} {p pos tpos : Pos} {elts : List Expr} {kk : Nat} (hg : Gl X "zip") (hm : X.mg "zip" = none) (ha : PA X [e, e2] ta)
    (hs : starEach [e, e2] X.env = (false, eval e X.env) :: starEach [e2] X.env := by rfl) (hpl : (backTo pos (starEach [e2] X.env)).any (·.1) = false := by rfl) :
    PI X (.Tuple elts kk tpos) (.Call (.Name "zip" p) [e, e2] [] pos) (iZipM X.K ta) := by
  refine ⟨fun pins s σ H R I h => ?_⟩
  refine Call_ (ld_blt I hg hm PyProof.Rows.boot_zip (PyProof.Rows.callWith_type1 (thn (ha.run pos pins s σ H _ I h) fun us s1 ⟨vs, H1, I1, r1, q1⟩ => ?_) hs hpl))
  obtain ⟨b1, b2, a, b, xs, ys, ex, hqx, hqy, q⟩ := q1
  subst ex
  cases r1 with
  | cons r rr =>
    cases rr with
    | cons r' rr =>
      cases rr
      cases r
      cases r'
      obtain ⟨its, rv, p1, la⟩ := sideB I1 hqx
      obtain ⟨its2, rv2, p2, lb⟩ := sideB I1 hqy
      have fresh5 : ∀ c, c ∈ [s1.heap.objs.size + 4, s1.heap.objs.size + 2, s1.heap.objs.size + 3, s1.heap.objs.size, s1.heap.objs.size + 1] → FpOk X pins H1 c := fun c hcm => by
        have e' : c = s1.heap.objs.size + 4 ∨ c = s1.heap.objs.size + 2 ∨ c = s1.heap.objs.size + 3 ∨ c = s1.heap.objs.size ∨ c = s1.heap.objs.size + 1 := by simpa using hcm
        have hle : s1.heap.objs.size ≤ c := by
          rcases e' with z | z | z | z | z
          · rw [z]; exact Nat.le_add_right _ _
          · rw [z]; exact Nat.le_add_right _ _
          · rw [z]; exact Nat.le_add_right _ _
          · rw [z]; exact Nat.le_refl _
          · rw [z]; exact Nat.le_add_right _ _
        exact I1.fpOk hle (I1.hok.fresh hle)
      refine zip_begins2 (beginsB b1 a its.toArray) (beginsB b2 b its2.toArray) p1 p2 fun h' hz hTI hTO h1 h2 hsz hk => wpAny_pyIter_zip hz ?_
      have I2 : L2.Inv X pins σ H1 { s1 with heap := h' } := I1.kept (t' := s1.toks) hk
      exact ⟨s1.heap.objs.size + 4, [s1.heap.objs.size + 4, s1.heap.objs.size + 2, s1.heap.objs.size + 3, s1.heap.objs.size, s1.heap.objs.size + 1], _, _, H1, rfl, I2, turn_zipM (b1 := b1) (b2 := b2) (PySem.W.ktu_apart s1.heap.objs.size a b la lb), ⟨hz, hTI, ⟨_, _, hTO⟩, .new h1, .new h2⟩, fresh5, q⟩
end PL
end
section
namespace PL
open PySem PySem.Spec PyProof.Rows L2
def IteB (K : PySem.W.Frag) (b : Bool) (a : Addr) : It :=
  ⟨fun i H => ∃ (xs : List V) (x : V), SqB K b H a xs ∧ xs[i]? = some x, fun i H v H' => ∃ T x, v = .ref T ∧ H T = none ∧ H' = upd H T (.tup [.int (i : Nat), x]) ∧ ∀ xs, SqB K b H a xs → xs[i]? = some x, fun i H => ∃ xs : List V, SqB K b H a xs ∧ i = xs.length⟩
theorem turn_enumB {P : Program} {w : World} {K : PySem.W.Frag} {elts : List Expr} {kk : Nat} {tpos : Pos} (b : Bool) (a e it : Addr) (hei : e ≠ it) (hea : e ≠ a) (hai : a ≠ it) :
    Turn P w K (.Tuple elts kk tpos) (IteB K b a) [e, it] e (fun i h => (∃ old, IsEnum h e it ((i : Nat) : Int) old) ∧ ItB b h it a i) where
  mem := by simp
  obj := fun i h st c hc => by
    obtain ⟨⟨old, he⟩, hit⟩ := st
    have e' : c = e ∨ c = it := by simpa using hc
    rcases e' with z | z
    · rw [z]; exact ⟨_, he, fun v q => nomatch q⟩
    · rw [z]; exact hit.obj
  keep := fun i h h' st k => let ⟨⟨old, he⟩, hi⟩ := st; ⟨⟨old, k e (by simp) _ he⟩, hi.at fun o q => k it (by simp) o q⟩
  item := by
    intro X hP hw hK hc i pins s σ H E I hf st hg
    subst hP hw hK
    obtain ⟨⟨old, he⟩, hit⟩ := st
    obtain ⟨xs, x, hq, hx⟩ := hg
    obtain ⟨its, rv, p, _⟩ := sideB I hq
    obtain ⟨u, hu, ru⟩ := rv.get hx
    have hel : e < s.heap.objs.size := Heap.lt_size he
    have hil : it < s.heap.objs.size := by obtain ⟨_, q, _⟩ := hit.obj; exact Heap.lt_size q
    have lt : i < its.toArray.size := by
      have := (List.getElem?_eq_some_iff.mp hu).1
      simpa using this
    refine wpAny_pyNext_enum_itemD (drawsB b (A := X.A.in1) (I.ok.hd hc) it a hai its.toArray) he ⟨hit, p⟩ lt hei (by simp [hei, hea]) fun w1 h' tk e1 ho hit' hT hsz hk => ?_
    have ew1 : w1 = u := by
      have : its[i]? = some w1 := by simpa using e1
      rw [hu] at this
      exact (Option.some.inj this).symm
    subst ew1
    refine ⟨_, rfl, wpAny_letOwnedTupleGo_enum (s := { s with heap := h', toks := tk + 1 }) ho fun h'' he' sb => ?_⟩
    have hT2 : h''.get? s.heap.objs.size = some { cls := .type "tuple", data := .seq #[.int i tk, w1] } := (sb.2 _ (Nat.ne_of_gt hel)).trans hT
    have new : ObjOk X.prog X.w (upd H s.heap.objs.size (.tup [.int (i : Nat), x])) h'' s.heap.objs.size (.tup [.int (i : Nat), x]) :=
      ⟨by show 2 ≤ sizeLine; decide, [.int i tk, w1], .cons ⟨_, rfl⟩ (.cons ru .nil), ⟨_, hT2, rfl, _, rfl⟩⟩
    have I1 : L2.Inv X pins σ (upd H s.heap.objs.size (.tup [.int (i : Nat), x])) { s with heap := h'', toks := tk + 1 } :=
      I.turnedNew (ch := [e, it]) (fun c ob hb q => (sb.2 c (fun z => hb (by simp [z]))).trans (hk c ob (fun z => hb (by simp [z])) (fun z => hb (by simp [z])) q)) hf (Nat.le_refl _) new
    refine ⟨.ref s.heap.objs.size, _, I1, rfl, ⟨_, x, rfl, I.hok.fresh (Nat.le_refl _), rfl, fun ys hy => by rw [injB I hy hq]; exact hx⟩, ⟨⟨w1, ?_⟩, hit'.1.at fun o q => (sb.2 it (Ne.symm hei)).trans q⟩, fun c hb => ?_⟩
    · have e1 : ((i + 1 : Nat) : Int) = (i : Int) + 1 := by omega
      rw [e1]; exact he'
    · have hb' : c < s.heap.objs.size := by
        have e' : c = e ∨ c = it := by simpa using hb
        rcases e' with z | z
        · rw [z]; exact hel
        · rw [z]; exact hil
      rw [upd_ne (Nat.ne_of_lt hb')]
      exact (hf c hb).1
  done := by
    intro X hP hw hK hc i pins s σ H E I hf st hg
    subst hP hw hK
    obtain ⟨⟨old, he⟩, hit⟩ := st
    obtain ⟨xs, hq, hx⟩ := hg
    obtain ⟨its, rv, p, _⟩ := sideB I hq
    obtain ⟨f0, f1, f2, f3, f4, f5⟩ := hf it (by simp)
    have hl := rv.length
    have en : i = its.toArray.size := by simp; omega
    rw [en] at hit
    exact wpAny_pyNext_enum_endD (drawsB b (A := X.A.in1) (I.ok.hd hc) it a hai its.toArray) he ⟨hit, p⟩ fun h' eb => ⟨rfl, I.turned (t' := s.toks) (fun b o hb q => eb b o hb q) f0 f1 f3 f4 f5⟩
  self := fun A i s Q E st h => let ⟨⟨_, he⟩, _⟩ := st; wpAny_pyIter_enum he h
set_option maxHeartbeats 1000000 in
theorem meets_enumerate_newB1 {v : Value} {o : Obj} {H : Heap → Prop} (B : Begins v o H) :
    Meets (Builtin.«enumerate.__new__» ⟨[.type "enumerate", v], []⟩) (fun _ R s => H s.heap ∧
      R (.ok (.ret (.ref (s.heap.push o).objs.size))) { s with heap := (s.heap.push o).push { cls := .type "enumerate", data := .fields #[.none, .bool false, .ref s.heap.objs.size, rawInt 0, .none, .none] } }) :=
  .of_wp fun prog w A R s h => by
    obtain ⟨hp, g, d, tk, os⟩ := s; obtain ⟨h1, h⟩ := h
    have hsub := sub_enumerate
    have q1 : ∀ {A' : Around} {E : Value → Shared → Prop} {Q : Value → Shared → Prop}, Q (.ref hp.objs.size) ⟨hp.push o, g, d, tk, os⟩ → wpAny (model prog w) A' (pyIter v) Q E ⟨hp, g, d, tk, os⟩ :=
      fun q => B.iter prog w _ _ ⟨hp, g, d, tk, os⟩ _ h1 q
    wp_walk using q1
    refine wpAny_stack_any fun st => wpAny_pure ?_
    split
    · rename_i c _ _ _ _ _
      cases (c == Value.type "enumerate")
      · wp_walk using q1
        exact ⟨_, rfl, h⟩
      · wp_walk using q1
        exact ⟨_, rfl, h⟩
    · wp_walk using q1
      exact ⟨_, rfl, h⟩
theorem enum_begins1 {prog : Program} {w : World} {A : Around} {E : Value → Shared → Prop} {s : Shared} {v : Value} {o : Obj} {H : Heap → Prop} {Q : Value → Shared → Prop} (B : Begins v o H) (h1 : H s.heap)
    (h : ∀ h', IsEnum h' (s.heap.objs.size + 1) s.heap.objs.size 0 .none → h'.get? s.heap.objs.size = some o → h'.objs.size = s.heap.objs.size + 2 →
      (∀ b o, s.heap.get? b = some o → h'.get? b = some o) → Q (.ref (s.heap.objs.size + 1)) { s with heap := h' }) :
    wpAny (model prog w) A (call (.type "enumerate") [v]) Q E s := by
  refine callType_new F.called_enumerate (by decide) (F.typeCall_enumerate_1 _) (F.newCall_enumerate_1 _) (fun obj => F.args_object_init_2 obj _) F.entry_enumerate_new
    (meets_enumerate_newB1 B) ⟨h1, ?_⟩
  have hz : (s.heap.push o).objs.size = s.heap.objs.size + 1 := Heap.size_push ..
  show _ ∧ _
  rw [hz]
  have he : IsEnum ((s.heap.push o).push { cls := .type "enumerate", data := .fields #[.none, .bool false, .ref s.heap.objs.size, rawInt 0, .none, .none] }) (s.heap.objs.size + 1) s.heap.objs.size 0 .none := by
    have := Heap.get?_push_size (s.heap.push o) (o := { cls := .type "enumerate", data := .fields #[.none, .bool false, .ref s.heap.objs.size, rawInt 0, .none, .none] }) rfl
    rw [hz] at this; exact this
  refine ⟨⟨_, he, rfl⟩, h _ he (Heap.get?_push_of_some _ (Heap.get?_push_size _ B.free)) (by rw [Heap.size_push, hz]) fun b o x => Heap.get?_push_of_some _ (Heap.get?_push_of_some _ x)⟩
def iEnumB (K : PySem.W.Frag) (ta : TA) : TI := fun σ H R => ta σ H fun vs H1 => ∃ b a xs, vs = [.ref a] ∧ SqB K b H1 a xs ∧ R (IteB K b a) H1
theorem pi_enumB {X : Cx} {e : Expr} {ta : TA} {p pos tpos : Pos} {elts : List Expr} {kk : Nat} (hg : Gl X "enumerate") (hm : X.mg "enumerate" = none) (ha : PA X [e] ta) (hs : starEach [e] X.env = [(false, eval e X.env)] := by rfl) :
    PI X (.Tuple elts kk tpos) (.Call (.Name "enumerate" p) [e] [] pos) (iEnumB X.K ta) := by
  refine ⟨fun pins s σ H R I h => ?_⟩
  refine Call_ (ld_blt I hg hm boot_enumerate (PyProof.Rows.callWith_type1 (thn (ha.run pos pins s σ H _ I h) fun us s1 ⟨vs, H1, I1, r1, q1⟩ => ?_) hs rfl))
  obtain ⟨b, a, xs, ex, hq, q⟩ := q1
  subst ex
  cases r1 with
  | cons r rr =>
    cases rr
    cases r
    obtain ⟨its, rv, p', la⟩ := sideB I1 hq
    refine enum_begins1 (beginsB b a its.toArray) p' fun h' he hit hsz hk => wpAny_pyIter_enum he ?_
    have I2 : L2.Inv X pins σ H1 { s1 with heap := h' } := I1.kept (t' := s1.toks) hk
    refine ⟨s1.heap.objs.size + 1, [s1.heap.objs.size + 1, s1.heap.objs.size], _, _, H1, rfl, I2, turn_enumB b a (s1.heap.objs.size + 1) s1.heap.objs.size (Nat.succ_ne_self _) (Nat.ne_of_gt (Nat.lt_succ_of_lt la)) (Nat.ne_of_lt la), ⟨⟨.none, he⟩, ItB.new hit⟩, fun c hb => ?_, q⟩
    have e' : c = s1.heap.objs.size + 1 ∨ c = s1.heap.objs.size := by simpa using hb
    have hle : s1.heap.objs.size ≤ c := by
      rcases e' with z | z
      · rw [z]; exact Nat.le_add_right _ _
      · rw [z]; exact Nat.le_refl _
    exact I1.fpOk hle (I1.hok.fresh hle)
end PL
end
section
namespace PL
open PySem PySem.Spec PyProof.Rows L2
theorem join_set {s : St} {i j : Nat} {o : Option V} (h : i < s.length) : ((s.set i o)[j]?).join = if j = i then o else (s[j]?).join := by
  by_cases e : j = i
  · subst e
    rw [if_pos rfl, List.getElem?_set_self h]
    rfl
  · rw [if_neg e, List.getElem?_set_ne (Ne.symm e)]
section
variable {K : PySem.W.Frag} {G0 H0 G H : Hp} {r : Rho} {s : St}
theorem Rel.setIm {i : Nat} {v : V} {d : D} (R : Rel K G0 H0 r s G H) (hv : RpO K G v d) (hs : i < s.length) : Rel K G0 H0 (r.set i (.im d)) (s.set i (some v)) G H where
  gg := R.gg
  hh := R.hh
  gh := R.gh
  gf := R.gf
  nw := R.nw
  sl := fun j x hx => by
    have hi : i < r.length := Nat.lt_of_lt_of_le hs R.ln.lo
    rw [join_set hs]
    by_cases e : j = i
    · subst e
      rw [List.getElem?_set_self hi] at hx
      cases hx
      rw [if_pos rfl]
      exact ⟨v, rfl, hv⟩
    · rw [List.getElem?_set_ne (Ne.symm e)] at hx
      rw [if_neg e]
      exact R.sl j x hx
  ds := fun j k a h1 h2 => by
    have hi : i < r.length := Nat.lt_of_lt_of_le hs R.ln.lo
    have key : ∀ j, OwnAt (r.set i (.im d)) (s.set i (some v)) j a → OwnAt r s j a := fun j h => by
      obtain ⟨q1, q2⟩ := h
      by_cases e : j = i
      · subst e
        rw [List.getElem?_set_self hi] at q1
        exact q1.elim
      · rw [List.getElem?_set_ne (Ne.symm e)] at q1 q2
        exact ⟨q1, q2⟩
    exact R.ds j k a (key j h1) (key k h2)
  ln := R.ln.set hs _ _
theorem Rel.setOl {i : Nat} {p : Addr} {xs : List V} {ds : List D} (R : Rel K G0 H0 r s G H) (hp : H p = some (.lst xs)) (hg : G p = none) (h0 : H0 p = none) (hn : ∀ j, j ≠ i → ¬ OwnAt r s j p) (hr : RpA K G xs ds) (hs : i < s.length) : Rel K G0 H0 (r.set i (.ol ds)) (s.set i (some (.ref p))) G H where
  gg := R.gg
  hh := R.hh
  gh := R.gh
  gf := R.gf
  nw := R.nw
  sl := fun j x hx => by
    have hi : i < r.length := Nat.lt_of_lt_of_le hs R.ln.lo
    rw [join_set hs]
    by_cases e : j = i
    · subst e
      rw [List.getElem?_set_self hi] at hx
      cases hx
      rw [if_pos rfl]
      exact ⟨p, xs, rfl, hp, hg, h0, hr⟩
    · rw [List.getElem?_set_ne (Ne.symm e)] at hx
      rw [if_neg e]
      exact R.sl j x hx
  ds := fun j k a h1 h2 => by
    have key : ∀ j, j ≠ i → OwnAt (r.set i (.ol ds)) (s.set i (some (.ref p))) j a → OwnAt r s j a := fun j e h => by
      obtain ⟨q1, q2⟩ := h
      rw [List.getElem?_set_ne (Ne.symm e)] at q1 q2
      exact ⟨q1, q2⟩
    have at_i : ∀ j, j = i → OwnAt (r.set i (.ol ds)) (s.set i (some (.ref p))) j a → a = p := fun j e h => by
      obtain ⟨q1, q2⟩ := h
      subst e
      rw [List.getElem?_set_self hs] at q2
      cases q2
      rfl
    by_cases e1 : j = i
    · by_cases e2 : k = i
      · rw [e1, e2]
      · have ea := at_i j e1 h1
        subst ea
        exact absurd (key k e2 h2) (hn k e2)
    · by_cases e2 : k = i
      · have ea := at_i k e2 h2
        subst ea
        exact absurd (key j e1 h1) (hn j e1)
      · exact R.ds j k a (key j e1 h1) (key k e2 h2)
  ln := R.ln.set hs _ _
theorem Rel.setUn {i : Nat} {o : Option V} (R : Rel K G0 H0 r s G H) (hs : i < s.length) : Rel K G0 H0 (r.set i .un) (s.set i o) G H := by
  have hi : i < r.length := Nat.lt_of_lt_of_le hs R.ln.lo
  refine ⟨R.gg, R.hh, R.gh, R.gf, R.nw, fun j x hx => ?_, fun j k a h1 h2 => ?_, R.ln.set hs _ _⟩
  · rw [join_set hs]
    by_cases e : j = i
    · subst e
      rw [List.getElem?_set_self hi] at hx
      cases hx
      exact trivial
    · rw [List.getElem?_set_ne (Ne.symm e)] at hx
      rw [if_neg e]
      exact R.sl j x hx
  · have key : ∀ j, OwnAt (r.set i .un) (s.set i o) j a → OwnAt r s j a := fun j h => by
      obtain ⟨q1, q2⟩ := h
      by_cases e : j = i
      · subst e
        rw [List.getElem?_set_self hi] at q1
        exact q1.elim
      · rw [List.getElem?_set_ne (Ne.symm e)] at q1 q2
        exact ⟨q1, q2⟩
    exact R.ds j k a (key j h1) (key k h2)
def wipeR (r : Rho) : List Nat → Rho
  | [] => r
  | v :: vs => (wipeR r vs).set v .un
theorem Rel.wipe (R : Rel K G0 H0 r s G H) : ∀ vs : List Nat, (∀ i ∈ vs, i < s.length) → Rel K G0 H0 (wipeR r vs) (L2.wipe s vs) G H
  | [], _ => R
  | v :: vs, h => (R.wipe vs fun i hi => h i (List.mem_cons_of_mem _ hi)).setUn (by rw [wipe_length]; exact h v List.mem_cons_self)
theorem Rel.mut {p : Addr} {o : HO} (R : Rel K G0 H0 r s G H) (hg : G p = none) (h0 : H0 p = none) (hn : ∀ i, ¬ OwnAt r s i p) : Rel K G0 H0 r s G (upd H p o) where
  gg := R.gg
  hh := ex_into R.hh h0
  gh := ex_into R.gh (um_none hg)
  gf := fun a q => by
    by_cases z : a = p
    · rw [z, upd_same] at q; cases q
    · rw [upd_ne z] at q; exact R.gf a q
  nw := R.nw
  sl := fun i x hx => by
    have q := R.sl i x hx
    cases x with
    | un => exact q
    | im d => exact q
    | ol ds =>
      obtain ⟨a, xs, e1, e2, e3, e4, e5⟩ := q
      have na : a ≠ p := fun z => by
        subst z
        refine hn i ⟨?_, ?_⟩
        · rw [hx]; trivial
        · cases e6 : s[i]? with
          | none => rw [e6] at e1; cases e1
          | some w => rw [e6] at e1; exact congrArg some e1
      exact ⟨a, xs, e1, by rw [upd_ne na]; exact e2, e3, e4, e5⟩
    | od ds =>
      obtain ⟨a, xs, e1, e2, e3, e4, e5⟩ := q
      have na : a ≠ p := fun z => by
        subst z
        refine hn i ⟨?_, ?_⟩
        · rw [hx]; trivial
        · cases e6 : s[i]? with
          | none => rw [e6] at e1; cases e1
          | some w => rw [e6] at e1; exact congrArg some e1
      exact ⟨a, xs, e1, by rw [upd_ne na]; exact e2, e3, e4, e5⟩
    | st w os => exact StOk.off hg q
  ds := R.ds
  ln := R.ln
end
inductive Tg where
  | nm (i : Nat) | tp (ts : List Tg)
mutual
def setT : Tg → D → Rho → R Rho
  | .nm i, d, r => if decide (i < r.length) then .ok (r.set i (.im d)) else .stuck
  | .tp ts, d, r => match d with
    | .tup ds => setTs ts ds r
    | .lst ds => setTs ts ds r
    | .tpo ds => setTs ts ds r
    | _ => .stuck
def setTs : List Tg → List D → Rho → R Rho
  | [], [], r => .ok r
  | t :: ts, d :: ds, r => (setT t d r).bnd fun r2 => setTs ts ds r2
  | _, _, _ => .stuck
end
mutual
def Tg.slots : Tg → List Nat
  | .nm i => [i]
  | .tp ts => slotsAll ts
def slotsAll : List Tg → List Nat
  | [] => []
  | t :: ts => t.slots ++ slotsAll ts
end
def Agree (is : List Nat) (s s' : St) : Prop := s'.length = s.length ∧ ∀ i, i ∉ is → s'[i]? = s[i]?
theorem Agree.refl (is : List Nat) (s : St) : Agree is s s := ⟨rfl, fun _ _ => rfl⟩
theorem Agree.trans {is js : List Nat} {s s' s2 : St} (a : Agree is s s') (b : Agree js s' s2) : Agree (is ++ js) s s2 :=
  ⟨b.1.trans a.1, fun i hi => (b.2 i fun z => hi (List.mem_append_right _ z)).trans (a.2 i fun z => hi (List.mem_append_left _ z))⟩
theorem wipe_get (s : St) : ∀ (vs : List Nat) (i : Nat), (L2.wipe s vs)[i]? = if i ∈ vs then (s[i]?.map fun _ => none) else s[i]?
  | [], i => by simp [L2.wipe]
  | v :: vs, i => by
    show ((L2.wipe s vs).set v none)[i]? = _
    by_cases e : v = i
    · subst e
      rw [if_pos List.mem_cons_self]
      by_cases h : v < (L2.wipe s vs).length
      · rw [List.getElem?_set_self h]
        rw [wipe_length] at h
        rw [List.getElem?_eq_getElem h]
        rfl
      · rw [List.getElem?_eq_none (by rw [List.length_set]; omega)]
        rw [wipe_length] at h
        rw [List.getElem?_eq_none (by omega)]
        rfl
    · rw [List.getElem?_set_ne e, wipe_get s vs i]
      by_cases m : i ∈ vs
      · rw [if_pos m, if_pos (List.mem_cons_of_mem _ m)]
      · rw [if_neg m, if_neg (fun z => by rcases List.mem_cons.mp z with z | z; exact e z.symm; exact m z)]
theorem Agree.wipe {is vs : List Nat} {s s' : St} (a : Agree is s s') (h : ∀ i ∈ is, i ∈ vs) : L2.wipe s' vs = L2.wipe s vs := by
  apply List.ext_getElem?
  intro i
  rw [wipe_get, wipe_get]
  by_cases m : i ∈ vs
  · rw [if_pos m, if_pos m]
    have l := a.1
    by_cases h1 : i < s.length
    · rw [List.getElem?_eq_getElem h1, List.getElem?_eq_getElem (by omega : i < s'.length)]
      rfl
    · rw [List.getElem?_eq_none (by omega), List.getElem?_eq_none (by omega)]
  · rw [if_neg m, if_neg m]
    exact a.2 i fun z => m (h i z)
theorem wipe_idem (s : St) (vs : List Nat) : L2.wipe (L2.wipe s vs) vs = L2.wipe s vs := Agree.wipe (is := vs) ⟨wipe_length s vs, fun i hi => by rw [wipe_get, if_neg hi]⟩ (fun _ h => h)
def tG (K : PySem.W.Frag) (t : Tg) : TG := fun v s H Q => ∃ T d, Rl K T s H ∧ RpO K T.G v d ∧ (match setT t d T.r with
  | .ok r' => ∀ s', Rel K T.G0 T.H0 r' s' T.G H → Agree t.slots s s' → Q s' H
  | _ => False)
def tGs (K : PySem.W.Frag) (ts : List Tg) : TGs := fun vs s H Q => ∃ T ds, Rl K T s H ∧ RpOA K T.G vs ds ∧ (match setTs ts ds T.r with
  | .ok r' => ∀ s', Rel K T.G0 T.H0 r' s' T.G H → Agree (slotsAll ts) s s' → Q s' H
  | _ => False)
def EG (X : Cx) (e : Expr) (t : Tg) : Prop := PG X e (tG X.K t)
def EGs (X : Cx) (e : List Expr) (ts : List Tg) : Prop := PGs X e (tGs X.K ts)
theorem pg_imp {X : Cx} {e : Expr} {t t' : TG} (h : PG X e t) (i : ∀ v s H Q, t' v s H Q → t v s H Q) : PG X e t' := ⟨fun pins s σ H v u Q I rv q => h.run pins s σ H v u Q I rv (i _ _ _ _ q)⟩
theorem pgs_imp {X : Cx} {e : List Expr} {t t' : TGs} (h : PGs X e t) (i : ∀ v s H Q, t' v s H Q → t v s H Q) : PGs X e t' := ⟨fun pins s σ H v u Q I rv q => h.run pins s σ H v u Q I rv (i _ _ _ _ q)⟩
section
variable {X : Cx} {E : WX} {pos : Pos}
theorem pg_impL {X : Cx} {e : Expr} {t t' : TG} (h : PG X e t) (i : ∀ v s H Q, s.length = X.N.length → t' v s H Q → t v s H Q) : PG X e t' := ⟨fun pins s σ H v u Q I rv q => h.run pins s σ H v u Q I rv (i _ _ _ _ I.len q)⟩
theorem n_lt {N : List Str} {i : Nat} {x : Str} {s : St} (h : N[i]? = some x) (e : s.length = N.length) : i < s.length := by
  rw [e]
  exact (List.getElem?_eq_some_iff.mp h).1
theorem eg_name (i : Nat) {x : Str} (hN : X.N.Nodup) (hi : X.N[i]? = some x := by rfl) (hx : Loc X.env.scope x := by first | exact Or.inl rfl | exact Or.inr rfl) (hf : X.fn x = true ∨ X.env.scope.names.lookup x = some .local := by first | exact .inl rfl | exact .inr rfl | assumption) : EG X (.Name x pos) (.nm i) :=
  pg_impL (pg_name hN hi hx hf) fun v s H Q sl ⟨T, d, R, rv, h⟩ => by
    simp only [setT] at h
    cases e : decide (i < T.r.length) with
    | false => rw [e] at h; exact h.elim
    | true =>
      rw [e] at h
      exact h _ (R.setIm rv (n_lt hi sl)) ⟨List.length_set, fun j hj => List.getElem?_set_ne (fun z => hj (by simp [Tg.slots, z]))⟩
theorem egs_nil : EGs X [] [] := pgs_imp pgs_nil fun v s H Q ⟨T, ds, R, rv, h⟩ => by
  cases rv with
  | nil => exact ⟨rfl, h s R (Agree.refl _ _)⟩
  | cons _ _ => exact h.elim
theorem egs_cons {e : Expr} {es : List Expr} {t : Tg} {ts : List Tg} (h1 : EG X e t) (h2 : EGs X es ts) (hs : (assignEach (e :: es) X.env).map (·.2) = assign e X.env :: (assignEach es X.env).map (·.2) := by rfl) : EGs X (e :: es) (t :: ts) :=
  pgs_imp (pgs_cons h1 h2 hs) fun vs s H Q ⟨T, ds, R, rv, h⟩ => by
    cases rv with
    | nil => exact h.elim
    | @cons v vs d ds r1 r2 =>
      simp only [setTs] at h
      refine ⟨v, vs, rfl, T, d, R, r1, ?_⟩
      cases e1 : setT t d T.r with
      | ok r1' =>
        rw [e1] at h
        intro s1 R1 a1
        refine ⟨{ T with r := r1' }, ds, R1, r2, ?_⟩
        have h2 : (match setTs ts ds r1' with
          | .ok r' => ∀ s', Rel X.K T.G0 T.H0 r' s' T.G H → Agree (slotsAll (t :: ts)) s s' → Q s' H
          | _ => False) := h
        cases e2 : setTs ts ds r1' with
        | ok r2' =>
          rw [e2] at h2
          exact fun s2 R2 a2 => h2 s2 R2 (a1.trans a2)
        | err c => rw [e2] at h2; exact h2
        | stuck => rw [e2] at h2; exact h2
      | err c => rw [e1] at h; exact h
      | stuck => rw [e1] at h; exact h
theorem setTs_len : ∀ {ts : List Tg} {ds : List D} {r r' : Rho}, setTs ts ds r = .ok r' → ds.length = ts.length
  | [], [], _, _, _ => rfl
  | [], _ :: _, _, _, h => by simp [setTs] at h
  | _ :: _, [], _, _, h => by simp [setTs] at h
  | t :: ts, d :: ds, r, r', h => by
    simp only [setTs] at h
    cases e : setT t d r with
    | ok r1 =>
      rw [e] at h
      rw [List.length_cons, List.length_cons, setTs_len (show setTs ts ds r1 = .ok r' from h)]
    | err c => rw [e] at h; cases h
    | stuck => rw [e] at h; cases h
theorem pg_or {e : Expr} {t t' : TG} (h : PG X e t) (h' : PG X e t') : PG X e (fun v s H Q => t v s H Q ∨ t' v s H Q) := ⟨fun pins s σ H v u Q I rv q => by
  rcases q with q | q
  · exact h.run pins s σ H v u Q I rv q
  · exact h'.run pins s σ H v u Q I rv q⟩
theorem eg_tup {es : List Expr} {k : Nat} {ts : List Tg} (hc : X.calm = true) (h : EGs X es ts) (hn : (assignEach es X.env).length = ts.length := by rfl) (hst : (assignEach es X.env).findIdx? (·.1) = none := by rfl) : EG X (.Tuple es k pos) (.tp ts) :=
  pg_imp (pg_or (pg_tup hc h hn hst) (pg_lst hc h hn hst)) fun v s H Q ⟨T, d, R, rv, h⟩ => by
    cases d with
    | tup ds =>
      simp only [setT] at h
      cases rv with
      | pure rv =>
       cases rv with
       | tup h1 h2 =>
        cases e : setTs ts ds T.r with
        | ok r' =>
          refine .inl ⟨_, _, rfl, R.sqt h1, by rw [h2.length]; exact setTs_len e, T, ds, R, h2.o, ?_⟩
          rw [e] at h ⊢
          exact h
        | err c => rw [e] at h; exact h.elim
        | stuck => rw [e] at h; exact h.elim
    | lst ds =>
      simp only [setT] at h
      cases rv with
      | pure rv =>
       cases rv with
       | lst h1 h2 =>
        cases e : setTs ts ds T.r with
        | ok r' =>
          refine .inr ⟨_, _, rfl, SqL.of (R.at h1 rfl), by rw [h2.length]; exact setTs_len e, T, ds, R, h2.o, ?_⟩
          rw [e] at h ⊢
          exact h
        | err c => rw [e] at h; exact h.elim
        | stuck => rw [e] at h; exact h.elim
    | tpo ds =>
      simp only [setT] at h
      cases rv with
      | pure rv => cases rv
      | tpo h1 h2 =>
        cases e : setTs ts ds T.r with
        | ok r' =>
          refine .inl ⟨_, _, rfl, R.sqt h1, by rw [h2.length]; exact setTs_len e, T, ds, R, h2, ?_⟩
          rw [e] at h ⊢
          exact h
        | err c => rw [e] at h; exact h.elim
        | stuck => rw [e] at h; exact h.elim
    | _ => exact h.elim
def YD (K : PySem.W.Frag) (G : Hp) (d : D) (H : Hp) (x : V) (H' : Hp) : Prop := (H' = H ∧ RpO K G x d) ∨ ∃ T ys es, x = .ref T ∧ H T = none ∧ H' = upd H T (.tup ys) ∧ d = .tup es ∧ RpA K G ys es
def Wk (K : PySem.W.Frag) (J : It) (ds : List D) (G B : Hp) : Prop := Walk J ds.length (fun H => Ex B H) (fun i H x H' => ∃ d, ds[i]? = some d ∧ YD K G d H x H')
def tI (K : PySem.W.Frag) (mg : Str → Option Value) (E : WX) (ow : Bool) (f : Rho → R (List D)) : TI := fun s H Q => ∃ T, Rl K T s H ∧ KE K mg E T s H (fun ds G' H' => ∀ J B, Ex B H' → (ow = false → B = um G') → Wk K J ds G' B → Q J H') (f T.r)
def EI (X : Cx) (E : WX) (ow : Bool) (tg e : Expr) (f : Rho → R (List D)) : Prop := PI X tg e (tI X.K X.mg E ow f)
theorem pi_imp {X : Cx} {tg e : Expr} {t t' : TI} (h : PI X tg e t) (i : ∀ s H Q, t' s H Q → t s H Q) : PI X tg e t' := ⟨fun pins s σ H Q I q => h.run pins s σ H Q I (i _ _ _ q)⟩
theorem pi_or {X : Cx} {tg e : Expr} {t t' : TI} (h : PI X tg e t) (h' : PI X tg e t') : PI X tg e (fun s H Q => t s H Q ∨ t' s H Q) := ⟨fun pins s σ H Q I q => by
  rcases q with q | q
  · exact h.run pins s σ H Q I q
  · exact h'.run pins s σ H Q I q⟩
def signs (z : Str) : List D := z.cps.toList.map fun c => .str ⟨#[c]⟩
def itemsD (ow : Bool) (r : Rho) : D → R (List D)
  | .tup ds => .ok ds
  | .tpo ds => .ok ds
  | .lst ds => .ok ds
  | .scr ns => .ok (ns.map .int)
  | .str z => .ok (signs z)
  | .own i => if ow then (match r[i]? with
    | some (.ol ds) => .ok ds
    | _ => .stuck) else .stuck
  | _ => .stuck
theorem wk_list {K : PySem.W.Frag} {a : Addr} {xs : List V} {ds : List D} {G B : Hp} (h : SqL K B a xs) (r : RpA K G xs ds) : Wk K (Itl K a) ds G B := by
  unfold Wk
  rw [← r.length]
  refine walk_list.mono (fun H e => Same.seq e h) fun i H x H' hi e y => ?_
  obtain ⟨d, e1, e2⟩ := r.getV y.2
  exact ⟨d, e1, .inl ⟨y.1, .pure e2⟩⟩
theorem wk_tup {K : PySem.W.Frag} {a : Addr} {xs : List V} {ds : List D} {G B : Hp} (h : SqT K B a xs) (r : RpA K G xs ds) : Wk K (Itt K a) ds G B := by
  unfold Wk
  rw [← r.length]
  refine walk_tup.mono (fun H e => ex_t e h) fun i H x H' hi e y => ?_
  obtain ⟨d, e1, e2⟩ := r.getV y.2
  exact ⟨d, e1, .inl ⟨y.1, .pure e2⟩⟩
theorem wk_tupO {K : PySem.W.Frag} {a : Addr} {xs : List V} {ds : List D} {G B : Hp} (h : SqT K B a xs) (r : RpOA K G xs ds) : Wk K (Itt K a) ds G B := by
  unfold Wk
  rw [← r.length]
  refine walk_tup.mono (fun H e => ex_t e h) fun i H x H' hi e y => ?_
  obtain ⟨d, e1, e2⟩ := r.getV y.2
  exact ⟨d, e1, .inl ⟨y.1, e2⟩⟩
theorem wk_str {K : PySem.W.Frag} {z : Str} {G B : Hp} : Wk K (Its z) (signs z) G B := by
  unfold Wk
  have l : (signs z).length = z.cps.size := by unfold signs; rw [List.length_map, Array.length_toList]
  rw [l]
  refine walk_str.mono (fun H e => trivial) fun i H x H' hi e y => ?_
  obtain ⟨y1, c, y2, y3⟩ := y
  refine ⟨.str ⟨#[c]⟩, ?_, .inl ⟨y1, by rw [y3]; exact .pure (.str _)⟩⟩
  unfold signs
  rw [List.getElem?_map, Array.getElem?_toList, y2]
  rfl
theorem wk_range {K : PySem.W.Frag} {lo : Int} {n : Nat} {G B : Hp} : Wk K (Itr lo n) ((List.range n).map fun i => .int (lo + (i : Nat))) G B := by
  unfold Wk
  rw [List.length_map, List.length_range]
  refine walk_range.mono (fun H e => trivial) fun i H x H' hi e y => ?_
  refine ⟨.int (lo + (i : Nat)), ?_, .inl ⟨y.1, by rw [y.2]; exact .pure (.int _)⟩⟩
  rw [List.getElem?_map, List.getElem?_range hi]
  rfl
variable {a b : Expr} {fa fb : Rho → R D} {fs : Rho → R (List D)} {tg : Expr} {ow : Bool} {p tpos : Pos}
def fIt (ow : Bool) (fa : Rho → R D) (r : Rho) : R (List D) := (fa r).bnd (itemsD ow r)
theorem ei_seq (ha : EV X E a fa) : EI X E ow tg a (fIt ow fa) :=
  pi_imp (pi_or (pi_list ha) (pi_or (pi_tup ha) (pi_str ha))) fun s H Q ⟨T, R, h⟩ => by
    have first : ∀ (P : VK), (∀ d G1 H1 v, fa T.r = .ok d → Rel X.K T.G0 T.H0 T.r s G1 H1 → RpE X.K G1 s v d → KE X.K X.mg E { T with G := G1 } s H1 (fun ds G' H' => ∀ J B, Ex B H' → (ow = false → B = um G') → Wk X.K J ds G' B → Q J H') (itemsD ow T.r d) → P v H1) → tE X.K X.mg E fa s H P := fun P hp =>
      ⟨T, R, KE.bnd h fun d G1 H1 ed eg eh R1 h1 v rv => hp d G1 H1 v ed R1 rv h1⟩
    cases e : fa T.r with
    | err c =>
      refine .inl (first _ fun d G1 H1 v ed => ?_)
      rw [e] at ed
      cases ed
    | stuck =>
      refine .inl (first _ fun d G1 H1 v ed => ?_)
      rw [e] at ed
      cases ed
    | ok d =>
      cases d with
      | tup ds =>
        refine .inr (.inl (first _ fun d G1 H1 v ed R1 rv h1 => ?_))
        rw [e] at ed
        cases ed
        obtain ⟨a, xs, rfl, h2, h3, h4⟩ := tup_ok (T := { T with G := G1 }) R1 rv
        exact ⟨a, rfl, ⟨xs, h3⟩, KE.here (T := { T with G := G1 }) (d := ds) h1 R1 _ (um G1) R1.gh (fun _ => rfl) (wk_tup (um_t h2) h4)⟩
      | tpo ds =>
        refine .inr (.inl (first _ fun d G1 H1 v ed R1 rv h1 => ?_))
        rw [e] at ed
        cases ed
        cases (show RpO X.K G1 v (.tpo ds) from rv) with
        | pure r0 => cases r0
        | tpo h2 h4 => exact ⟨_, rfl, ⟨_, R1.sqt h2⟩, KE.here (T := { T with G := G1 }) (d := ds) h1 R1 _ (um G1) R1.gh (fun _ => rfl) (wk_tupO (um_t h2) h4)⟩
      | lst ds =>
        refine .inl (first _ fun d G1 H1 v ed R1 rv h1 => ?_)
        rw [e] at ed
        cases ed
        cases (show Rp X.K G1 v (.lst ds) from rv) with
        | lst h2 h4 => exact ⟨_, rfl, ⟨_, SqL.of (R1.at h2 rfl)⟩, KE.here (T := { T with G := G1 }) (d := ds) h1 R1 _ (um G1) R1.gh (fun _ => rfl) (wk_list (SqL.of (um_of h2 rfl)) h4)⟩
      | scr ns =>
        refine .inl (first _ fun d G1 H1 v ed R1 rv h1 => ?_)
        rw [e] at ed
        cases ed
        cases (show Rp X.K G1 v (.scr ns) from rv) with
        | scr h2 => exact ⟨_, rfl, ⟨_, R1.sql h2⟩, KE.here (T := { T with G := G1 }) (d := ns.map D.int) h1 R1 _ (um G1) R1.gh (fun _ => rfl) (wk_list (um_l h2) (RpA.ints ns))⟩
      | str z =>
        refine .inr (.inr (first _ fun d G1 H1 v ed R1 rv h1 => ?_))
        rw [e] at ed
        cases ed
        cases (show Rp X.K G1 v (.str z) from rv)
        exact ⟨z, rfl, KE.here (T := { T with G := G1 }) (d := signs z) h1 R1 _ (um G1) R1.gh (fun _ => rfl) wk_str⟩
      | own i =>
        refine .inl (first _ fun d G1 H1 v ed R1 rv h1 => ?_)
        rw [e] at ed
        cases ed
        cases ow with
        | false => exact h1.elim
        | true =>
          have h2 : KE X.K X.mg E { T with G := G1 } s H1 (fun ds G' H' => ∀ J B, Ex B H' → (true = false → B = um G') → Wk X.K J ds G' B → Q J H') (match T.r[i]? with
            | some (.ol ds) => .ok ds
            | _ => .stuck) := h1
          cases e2 : T.r[i]? with
          | none => rw [e2] at h2; exact h2.elim
          | some x =>
            rw [e2] at h2
            cases x with
            | ol ds =>
              obtain ⟨a, xs, rfl, h3, h4⟩ := own_list (T := { T with G := G1 }) R1 rv e2
              exact ⟨a, rfl, ⟨xs, SqL.of h3⟩, KE.here (T := { T with G := G1 }) (d := ds) h2 R1 _ H1 (Same.refl _) (fun z => by cases z) (wk_list (SqL.of h3) h4)⟩
            | _ => exact h2.elim
      | _ =>
        refine .inl (first _ fun d G1 H1 v ed R1 rv h1 => ?_)
        rw [e] at ed
        cases ed
        exact h1.elim
noncomputable def rangeD1 : List D → R (List D)
  | [.int j] => if okB (-(2 ^ 62) ≤ j ∧ j < 2 ^ 62) then .ok ((List.range j.toNat).map fun i => .int ((0 : Int) + (i : Nat))) else .stuck
  | _ => .stuck
def fRg (g : List D → R (List D)) (fs : Rho → R (List D)) (r : Rho) : R (List D) := (fs r).bnd g
theorem ei_range1 (hg : Gl X "range") (hm : X.mg "range" = none) (ha : EA X E [a] fs) (hs : starEach [a] X.env = [(false, eval a X.env)] := by rfl) : EI X E ow tg (.Call (.Name "range" p) [a] [] pos) (fRg rangeD1 fs) :=
  pi_imp (pi_range1 hg hm ha hs) fun s H Q ⟨T, R, h⟩ => ⟨T, R, KE.bnd h fun ds G1 H1 ed eg eh R1 h1 vs rvs => by
    cases rvs with
    | nil => exact h1.elim
    | @cons v vs d ds r1 r2 =>
      cases r2 with
      | cons _ _ => cases d <;> exact h1.elim
      | nil =>
        cases d with
        | int j =>
          cases r1
          simp only [rangeD1] at h1
          cases e : okB (-(2 ^ 62) ≤ j ∧ j < 2 ^ 62) with
          | false => rw [e] at h1; exact h1.elim
          | true =>
            rw [e] at h1
            have e2 := okB_iff.mp e
            exact ⟨j, rfl, e2.1, e2.2, KE.here (T := { T with G := G1 }) h1 R1 _ (um G1) R1.gh (fun _ => rfl) wk_range⟩
        | _ => exact h1.elim⟩
def viewB (ow : Bool) (r : Rho) : D → Option (Bool × List D)
  | .tup ds => some (true, ds)
  | .lst ds => some (false, ds)
  | .scr ns => some (false, ns.map .int)
  | .own i => if ow then (match r[i]? with
    | some (.ol ds) => some (false, ds)
    | _ => none) else none
  | _ => none
abbrev baseB (ow : Bool) (G H : Hp) : Hp := if ow = true then H else um G
theorem baseB_ex {ow : Bool} {G H : Hp} (e : Ex (um G) H) : Ex (baseB ow G H) H := by
  cases ow with
  | true => exact Same.refl _
  | false => exact e
theorem baseB_of {ow : Bool} {G H : Hp} (e : Ex (um G) H) : Ex (um G) (baseB ow G H) := by
  cases ow with
  | true => exact e
  | false => exact Same.refl _
theorem viewB_ok {K : PySem.W.Frag} {T : Stt} {s : St} {H : Hp} {v : V} {d : D} {b : Bool} {ds : List D} (R : Rl K T s H) (rv : RpE K T.G s v d) (h : viewB ow T.r d = some (b, ds)) : ∃ a xs, v = .ref a ∧ (if b = true then SqT K (baseB ow T.G H) a xs else SqL K (baseB ow T.G H) a xs) ∧ RpA K T.G xs ds := by
  cases d with
  | tup es =>
    cases h
    obtain ⟨a, xs, e1, e2, _, e3⟩ := tup_ok R rv
    exact ⟨a, xs, e1, ex_t (baseB_of R.gh) (um_t e2), e3⟩
  | lst es =>
    cases h
    cases (show Rp K T.G v (.lst ds) from rv) with
    | lst h1 h2 => exact ⟨_, _, rfl, SqL.of (baseB_of R.gh _ _ (um_of h1 rfl)), h2⟩
  | scr ns =>
    cases h
    cases (show Rp K T.G v (.scr ns) from rv) with
    | scr h1 => exact ⟨_, _, rfl, Same.seq (baseB_of R.gh) (um_l h1), RpA.ints ns⟩
  | own i =>
    cases ow with
    | false => cases h
    | true =>
      have h2 : (match T.r[i]? with
        | some (.ol ds) => some (false, ds)
        | _ => none) = some (b, ds) := h
      cases e : T.r[i]? with
      | none => rw [e] at h2; cases h2
      | some x =>
        rw [e] at h2
        cases x with
        | ol es =>
          cases h2
          obtain ⟨a, xs, e1, e2, e3⟩ := own_list R rv e
          exact ⟨a, xs, e1, SqL.of e2, e3⟩
        | _ => cases h2
  | _ => cases h
def pairD (x y : D) : D := .tup [x, y]
def zipD (ow : Bool) (r : Rho) : List D → R (List D)
  | [x, y] => match viewB ow r x, viewB ow r y with
    | some (_, xs), some (_, ys) => .ok (List.zipWith pairD xs ys)
    | _, _ => .stuck
  | _ => .stuck
theorem zip_get {K : PySem.W.Frag} {G : Hp} {xs ys : List V} {ds es : List D} (r1 : RpA K G xs ds) (r2 : RpA K G ys es) {i : Nat} {H : Hp} {v : V} {H' : Hp} (y : YPair (fun i => xs[i]?) (fun i => ys[i]?) i H v H') : ∃ d, (List.zipWith pairD ds es)[i]? = some d ∧ YD K G d H v H' := by
  obtain ⟨t, x, z, h1, h2, h3, h4, h5⟩ := y
  obtain ⟨d1, e1, e2⟩ := r1.getV h4
  obtain ⟨d2, e3, e4⟩ := r2.getV h5
  refine ⟨.tup [d1, d2], ?_, .inr ⟨t, [x, z], [d1, d2], h1, h2, h3, rfl, .cons e2 (.cons e4 .nil)⟩⟩
  rw [List.getElem?_zipWith, e1, e3]
  rfl
theorem exB {K : PySem.W.Frag} {b : Bool} {G H : Hp} {a : Addr} {xs : List V} (e : Ex G H) (h : SqB K b G a xs) : SqB K b H a xs := by
  cases b with
  | true => exact ex_t e h
  | false => exact Same.seq e h
theorem wk_zipM {K : PySem.W.Frag} {b1 b2 : Bool} {a b : Addr} {xs ys : List V} {ds es : List D} {G B : Hp} (h1 : SqB K b1 B a xs) (h2 : SqB K b2 B b ys) (r1 : RpA K G xs ds) (r2 : RpA K G ys es) : Wk K (ItzM K b1 b2 a b) (List.zipWith pairD ds es) G B := by
  unfold Wk
  rw [List.length_zipWith, ← r1.length, ← r2.length]
  refine ⟨fun i H hi e => ?_, fun H e => ⟨xs, ys, exB e h1, exB e h2, by omega, by omega, by omega⟩, fun i H v H' hi e y => ?_⟩
  · have l1 : i < xs.length := by omega
    have l2 : i < ys.length := by omega
    exact ⟨xs, ys, xs[i], ys[i], exB e h1, exB e h2, by simp [l1], by simp [l2]⟩
  · obtain ⟨t, x, z, q1, q2, q3, q4, q5⟩ := y
    exact zip_get r1 r2 ⟨t, x, z, q1, q2, q3, q4 xs (exB e h1), q5 ys (exB e h2)⟩
def fZip (ow : Bool) (fs : Rho → R (List D)) (r : Rho) : R (List D) := (fs r).bnd (zipD ow r)
theorem ei_zip {elts : List Expr} {kk : Nat} (hg : Gl X "zip") (hm : X.mg "zip" = none) (ha : EB X E [a, b] fs)
    (hs : starEach [a, b] X.env = (false, eval a X.env) :: starEach [b] X.env := by rfl) (hpl : (backTo pos (starEach [b] X.env)).any (·.1) = false := by rfl) : EI X E ow (.Tuple elts kk tpos) (.Call (.Name "zip" p) [a, b] [] pos) (fZip ow fs) :=
  pi_imp (pi_zipM hg hm ha hs hpl) fun s H Q ⟨T, R, h⟩ => ⟨T, R, KE.bnd h fun ds G1 H1 ed eg eh R1 h1 vs rvs => by
    cases rvs with
    | nil => exact h1.elim
    | @cons v vs d ds r1 r2 =>
      cases r2 with
      | nil => exact h1.elim
      | @cons v2 vs2 d2 ds2 r3 r4 =>
        cases r4 with
        | cons _ _ => exact h1.elim
        | nil =>
          simp only [zipD] at h1
          cases e1 : viewB ow T.r d with
          | none => rw [e1] at h1; exact h1.elim
          | some q1 =>
            obtain ⟨b1, xs1⟩ := q1
            cases e2 : viewB ow T.r d2 with
            | none => rw [e1, e2] at h1; exact h1.elim
            | some q2 =>
              obtain ⟨b2, xs2⟩ := q2
              rw [e1, e2] at h1
              simp only at h1
              obtain ⟨a1, ys1, rfl, g1, k1⟩ := viewB_ok (T := { T with G := G1 }) R1 r1 e1
              obtain ⟨a2, ys2, rfl, g2, k2⟩ := viewB_ok (T := { T with G := G1 }) R1 r3 e2
              have bb : ow = false → baseB ow G1 H1 = um G1 := fun z => by rw [z]; rfl
              exact ⟨b1, b2, a1, a2, ys1, ys2, rfl, exB (baseB_ex R1.gh) g1, exB (baseB_ex R1.gh) g2, KE.here (T := { T with G := G1 }) h1 R1 _ (baseB ow G1 H1) (baseB_ex R1.gh) bb (wk_zipM g1 g2 k1 k2)⟩⟩
def enumFrom : Nat → List D → List D
  | _, [] => []
  | n, d :: ds => .tup [.int (n : Nat), d] :: enumFrom (n + 1) ds
theorem enumFrom_len : ∀ (n : Nat) (ds : List D), (enumFrom n ds).length = ds.length
  | _, [] => rfl
  | n, d :: ds => by rw [enumFrom, List.length_cons, List.length_cons, enumFrom_len]
theorem enumFrom_get : ∀ (n : Nat) (ds : List D) (i : Nat) (d : D), ds[i]? = some d → (enumFrom n ds)[i]? = some (.tup [.int ((n + i : Nat) : Int), d])
  | _, [], _, _, h => by simp at h
  | n, e :: ds, 0, d, h => by simp at h; subst h; rfl
  | n, e :: ds, i + 1, d, h => by
    have q := enumFrom_get (n + 1) ds i d (by simpa using h)
    rw [enumFrom, List.getElem?_cons_succ, q]
    congr 5
    omega
def enumD (ow : Bool) (r : Rho) : List D → R (List D)
  | [x] => match viewB ow r x with
    | some (_, xs) => .ok (enumFrom 0 xs)
    | _ => .stuck
  | _ => .stuck
theorem wk_enum {K : PySem.W.Frag} {b : Bool} {a : Addr} {xs : List V} {ds : List D} {G B : Hp} (h1 : SqB K b B a xs) (r1 : RpA K G xs ds) : Wk K (IteB K b a) (enumFrom 0 ds) G B := by
  unfold Wk
  rw [enumFrom_len, ← r1.length]
  refine ⟨fun i H hi e => ?_, fun H e => ⟨xs, exB e h1, rfl⟩, fun i H v H' hi e y => ?_⟩
  · exact ⟨xs, xs[i], exB e h1, by simp [hi]⟩
  · obtain ⟨t, z, q1, q2, q3, q5⟩ := y
    have q5 := q5 xs (exB e h1)
    obtain ⟨d2, e3, e4⟩ := r1.getV q5
    refine ⟨_, enumFrom_get 0 ds i d2 e3, .inr ⟨t, [.int (i : Nat), z], [_, d2], q1, q2, q3, rfl, .cons ?_ (.cons e4 .nil)⟩⟩
    rw [Nat.zero_add]
    exact .int _
def fEnum (ow : Bool) (fs : Rho → R (List D)) (r : Rho) : R (List D) := (fs r).bnd (enumD ow r)
theorem ei_enum {elts : List Expr} {kk : Nat} (hg : Gl X "enumerate") (hm : X.mg "enumerate" = none) (ha : EB X E [a] fs) (hs : starEach [a] X.env = [(false, eval a X.env)] := by rfl) : EI X E ow (.Tuple elts kk tpos) (.Call (.Name "enumerate" p) [a] [] pos) (fEnum ow fs) :=
  pi_imp (pi_enumB hg hm ha hs) fun s H Q ⟨T, R, h⟩ => ⟨T, R, KE.bnd h fun ds G1 H1 ed eg eh R1 h1 vs rvs => by
    cases rvs with
    | nil => exact h1.elim
    | @cons v vs d ds r1 r2 =>
      cases r2 with
      | cons _ _ => exact h1.elim
      | nil =>
        simp only [enumD] at h1
        cases e1 : viewB ow T.r d with
        | none => rw [e1] at h1; exact h1.elim
        | some q1 =>
          obtain ⟨b1, xs1⟩ := q1
          rw [e1] at h1
          obtain ⟨a1, ys1, rfl, g1, k1⟩ := viewB_ok (T := { T with G := G1 }) R1 r1 e1
          have bb : ow = false → baseB ow G1 H1 = um G1 := fun z => by rw [z]; rfl
          exact ⟨b1, a1, ys1, rfl, exB (baseB_ex R1.gh) g1, KE.here (T := { T with G := G1 }) h1 R1 _ (baseB ow G1 H1) (baseB_ex R1.gh) bb (wk_enum g1 k1)⟩⟩
end
end PL
end
section
namespace PL
open PySem PySem.Spec PyProof.Rows L2
def noE {α : Type} : R α → R α
  | .err _ => .stuck
  | x => x
theorem noE_ok {α : Type} {x : R α} {a : α} (h : noE x = .ok a) : x = .ok a := by
  cases x with
  | ok b => exact h
  | err c => cases h
  | stuck => cases h
def lcGo (t : Tg) (ft : Rho → R Bool) (fe : Rho → R D) (r : Rho) : List D → R (List D)
  | [] => .ok []
  | d :: ds => (noE (setT t d r)).bnd fun r2 => (noE (ft r2)).bnd fun b => if b then (noE (fe r2)).bnd fun y => (imD y).bnd fun y => (lcGo t ft fe r ds).bnd fun ys => .ok (y :: ys) else lcGo t ft fe r ds
theorem bnd_eq_ok {α β : Type} {x : R α} {k : α → R β} {b : β} (h : x.bnd k = .ok b) : ∃ a, x = .ok a ∧ k a = .ok b := by
  cases x with
  | ok a => exact ⟨a, rfl, h⟩
  | err c => cases h
  | stuck => cases h
theorem lcGo_noerr {t : Tg} {ft : Rho → R Bool} {fe : Rho → R D} {r : Rho} : ∀ {ds : List D} {c : Str}, lcGo t ft fe r ds ≠ .err c
  | [], c, h => by cases h
  | d :: ds, c, h => by
    have ih := fun c => lcGo_noerr (t := t) (ft := ft) (fe := fe) (r := r) (ds := ds) (c := c)
    unfold lcGo at h
    cases e1 : setT t d r with
    | err c => rw [e1] at h; cases h
    | stuck => rw [e1] at h; cases h
    | ok r2 =>
      rw [e1] at h
      have h2 : ((noE (ft r2)).bnd fun b => if b then (noE (fe r2)).bnd fun y => (imD y).bnd fun y => (lcGo t ft fe r ds).bnd fun ys => .ok (y :: ys) else lcGo t ft fe r ds) = .err c := h
      cases e2 : ft r2 with
      | err c => rw [e2] at h2; cases h2
      | stuck => rw [e2] at h2; cases h2
      | ok b =>
        rw [e2] at h2
        cases b with
        | false => exact ih c h2
        | true =>
          have h3 : ((noE (fe r2)).bnd fun y => (imD y).bnd fun y => (lcGo t ft fe r ds).bnd fun ys => .ok (y :: ys)) = .err c := h2
          cases e3 : fe r2 with
          | err c => rw [e3] at h3; cases h3
          | stuck => rw [e3] at h3; cases h3
          | ok y =>
            rw [e3] at h3
            have h4 : ((imD y).bnd fun y => (lcGo t ft fe r ds).bnd fun ys => .ok (y :: ys)) = .err c := h3
            unfold imD at h4
            cases e4 : noOwn y with
            | false => rw [e4] at h4; cases h4
            | true =>
              rw [e4] at h4
              have h5 : ((lcGo t ft fe r ds).bnd fun ys => .ok (y :: ys)) = .err c := h4
              cases e5 : lcGo t ft fe r ds with
              | ok ys => rw [e5] at h5; cases h5
              | stuck => rw [e5] at h5; cases h5
              | err c' => exact ih c' e5
def fLc (vs : List Nat) (t : Tg) (fi : Rho → R (List D)) (ft : Rho → R Bool) (fe : Rho → R D) (r : Rho) : R (List D) := (fi r).bnd fun ds => if decide (ds.length < sizeLine) then lcGo t ft fe (wipeR r vs) ds else .stuck
def AgreeR (is : List Nat) (s s' : Rho) : Prop := s'.length = s.length ∧ ∀ i, i ∉ is → s'[i]? = s[i]?
mutual
theorem setT_agree : ∀ {t : Tg} {d : D} {r r' : Rho}, setT t d r = .ok r' → AgreeR t.slots r r'
  | .nm i, d, r, r', h => by
    simp only [setT] at h
    cases e : decide (i < r.length) with
    | false => rw [e] at h; cases h
    | true =>
      rw [e] at h
      cases h
      exact ⟨List.length_set, fun j hj => List.getElem?_set_ne (fun z => hj (by simp [Tg.slots, z]))⟩
  | .tp ts, .tup ds, r, r', h => by
    simp only [setT] at h
    exact setTs_agree (ts := ts) h
  | .tp ts, .non, r, r', h => by cases h
  | .tp ts, .bl _, r, r', h => by cases h
  | .tp ts, .int _, r, r', h => by cases h
  | .tp ts, .str _, r, r', h => by cases h
  | .tp ts, .lst ds, r, r', h => by
    simp only [setT] at h
    exact setTs_agree (ts := ts) h
  | .tp ts, .dic _, r, r', h => by cases h
  | .tp ts, .own _, r, r', h => by cases h
  | .tp ts, .scr _, r, r', h => by cases h
  | .tp ts, .exc _, r, r', h => by cases h
  | .tp ts, .fn _, r, r', h => by cases h
  | .tp ts, .obj _, r, r', h => by cases h
  | .tp ts, .tpo ds, r, r', h => by
    simp only [setT] at h
    exact setTs_agree (ts := ts) h
theorem setTs_agree : ∀ {ts : List Tg} {ds : List D} {r r' : Rho}, setTs ts ds r = .ok r' → AgreeR (slotsAll ts) r r'
  | [], [], r, r', h => by cases h; exact ⟨rfl, fun _ _ => rfl⟩
  | [], _ :: _, _, _, h => by simp [setTs] at h
  | _ :: _, [], _, _, h => by simp [setTs] at h
  | t :: ts, d :: ds, r, r', h => by
    simp only [setTs] at h
    obtain ⟨r1, e1, e2⟩ := bnd_eq_ok h
    have a1 := setT_agree (t := t) e1
    have a2 := setTs_agree (ts := ts) e2
    exact ⟨a2.1.trans a1.1, fun i hi => (a2.2 i fun z => hi (List.mem_append_right _ z)).trans (a1.2 i fun z => hi (List.mem_append_left _ z))⟩
end
theorem wipeR_length (s : Rho) : ∀ vs : List Nat, (wipeR s vs).length = s.length
  | [] => rfl
  | v :: vs => by unfold wipeR; rw [List.length_set, wipeR_length s vs]
theorem wipeR_get (s : Rho) : ∀ (vs : List Nat) (i : Nat), (wipeR s vs)[i]? = if i ∈ vs then (s[i]?.map fun _ => .un) else s[i]?
  | [], i => by simp [wipeR]
  | v :: vs, i => by
    show ((wipeR s vs).set v .un)[i]? = _
    by_cases e : v = i
    · subst e
      rw [if_pos List.mem_cons_self]
      by_cases h : v < (wipeR s vs).length
      · rw [List.getElem?_set_self h]
        rw [wipeR_length] at h
        rw [List.getElem?_eq_getElem h]
        rfl
      · rw [List.getElem?_eq_none (by rw [List.length_set]; omega)]
        rw [wipeR_length] at h
        rw [List.getElem?_eq_none (by omega)]
        rfl
    · rw [List.getElem?_set_ne e, wipeR_get s vs i]
      by_cases m : i ∈ vs
      · rw [if_pos m, if_pos (List.mem_cons_of_mem _ m)]
      · rw [if_neg m, if_neg (fun z => by rcases List.mem_cons.mp z with z | z; exact e z.symm; exact m z)]
theorem AgreeR.wipe {is vs : List Nat} {s s' : Rho} (a : AgreeR is s s') (h : ∀ i ∈ is, i ∈ vs) : wipeR s' vs = wipeR s vs := by
  apply List.ext_getElem?
  intro i
  rw [wipeR_get, wipeR_get]
  by_cases m : i ∈ vs
  · rw [if_pos m, if_pos m]
    have l := a.1
    by_cases h1 : i < s.length
    · rw [List.getElem?_eq_getElem h1, List.getElem?_eq_getElem (by omega : i < s'.length)]
      rfl
    · rw [List.getElem?_eq_none (by omega), List.getElem?_eq_none (by omega)]
  · rw [if_neg m, if_neg m]
    exact a.2 i fun z => m (h i z)
theorem wipeR_idem (s : Rho) (vs : List Nat) : wipeR (wipeR s vs) vs = wipeR s vs := AgreeR.wipe (is := vs) ⟨wipeR_length s vs, fun i hi => by rw [wipeR_get, if_neg hi]⟩ (fun _ h => h)
theorem lc_red {K : PySem.W.Frag} {mg : Str → Option Value} {E : WX} {vs : List Nat} {t : Tg} {fi : Rho → R (List D)} {ft : Rho → R Bool} {fe : Rho → R D} (hsl : ∀ i ∈ t.slots, i ∈ vs) {s : St} {H : Hp} {Q : VK} (hvs : ∀ i ∈ vs, i < s.length) (h : tN K mg E (fLc vs t fi ft fe) s H Q) :
    tLc (tI K mg E true fi) (tG K t) (tT K mg EZ ft) (tE K mg EZ fe) vs s H Q := by
  obtain ⟨T, R, h⟩ := h
  unfold fLc at h
  refine ⟨T, R, ?_⟩
  cases ei : fi T.r with
  | err c => rw [ei] at h; exact h
  | stuck => rw [ei] at h; exact h
  | ok ds =>
    rw [ei] at h
    intro G1 H1 eg eh nw1 R1 J B eB _ wk Dl hD
    have h1 : KE K mg E T s H (fun ds G' H' => ∀ p xs, H p = none → H' p = some (.lst xs) → G' p = none → RpA K G' xs ds → Q (.ref p) H') (if decide (ds.length < sizeLine) then lcGo t ft fe (wipeR T.r vs) ds else .stuck) := h
    cases el : decide (ds.length < sizeLine) with
    | false => rw [el] at h1; exact h1.elim
    | true =>
      rw [el] at h1
      have len := of_decide_eq_true el
      cases eo : lcGo t ft fe (wipeR T.r vs) ds with
      | err c => exact absurd eo lcGo_noerr
      | stuck => rw [if_pos rfl, eo] at h1; exact h1.elim
      | ok zs =>
        rw [if_pos rfl, eo] at h1
        have hB : B Dl = none := eB.free hD
        have h0D : T.H0 Dl = none := R1.hh.free hD
        have own1 : ∀ i, ¬ OwnAt (wipeR T.r vs) (L2.wipe s vs) i Dl := fun i o => by
          obtain ⟨⟨u, e⟩, _⟩ := own_in (R1.wipe vs hvs) o
          rw [e] at hD
          cases hD
        refine lc_it wk (fun i H' => ∃ G' acc ys zs', Rel K T.G0 T.H0 (wipeR T.r vs) (L2.wipe s vs) G' H' ∧ Ex G1 G' ∧ Ex H1 H' ∧ Nw G1 G' H1 ∧ Ex B H' ∧ H' Dl = some (.lst acc) ∧ G' Dl = none ∧ RpA K G' acc ys ∧ lcGo t ft fe (wipeR T.r vs) (ds.drop i) = .ok zs' ∧ ys ++ zs' = zs ∧ ys.length ≤ i ∧ Rel K T.G0 T.H0 T.r s G' H') ?_ ?_ ?_ ?_
        · exact ⟨G1, [], [], zs, (R1.wipe vs hvs).lay hD, Same.refl _, ex_new hD, Nw.refl _ _, ex_into eB hB, upd_same, R1.gf _ hD, .nil, by rw [List.drop_zero]; exact eo, rfl, Nat.le_refl _, R1.lay hD⟩
        · rintro i H' _ ⟨G', acc, ys, zs', _, _, _, _, e, _⟩
          exact e
        · rintro i x H2 H3 hi ⟨G', acc, ys, zs', R2, eg2, eh2, nw2, eB2, hl, hg, ra, go, ez, yl, R2o⟩ ⟨d, hd, yd⟩
          have dr : ds.drop i = d :: ds.drop (i + 1) := by
            have hlt := (List.getElem?_eq_some_iff.mp hd).1
            rw [List.drop_eq_getElem_cons hlt]
            congr 1
            exact (List.getElem?_eq_some_iff.mp hd).2
          rw [dr] at go
          simp only [lcGo] at go
          obtain ⟨r2, g1, go⟩ := bnd_eq_ok go
          obtain ⟨b, g2, go⟩ := bnd_eq_ok go
          have g1 := noE_ok g1
          have g2 := noE_ok g2
          obtain ⟨G3, R3, R3o, rx, eg3, eh3, nw3⟩ : ∃ G3, Rel K T.G0 T.H0 (wipeR T.r vs) (L2.wipe s vs) G3 H3 ∧ Rel K T.G0 T.H0 T.r s G3 H3 ∧ RpO K G3 x d ∧ Ex G' G3 ∧ Ex H2 H3 ∧ Nw G' G3 H2 := by
            rcases yd with ⟨e1, e2⟩ | ⟨p, ys, es, e1, e2, e3, e4, e5⟩
            · subst e1
              exact ⟨G', R2, R2o, e2.mono eg2, Same.refl _, Same.refl _, Nw.refl _ _⟩
            · subst e1 e3 e4
              have xg : Ex G' (upd G' p (.tup ys)) := ex_new (R2.gf _ e2)
              exact ⟨upd G' p (.tup ys), R2.new e2, R2o.new e2, .pure (.tup (SqT.of upd_same) ((e5.mono eg2).mono xg)), xg, ex_new e2, Nw.new e2⟩
          have ag := setT_agree g1
          refine ⟨⟨T.G0, T.H0, wipeR T.r vs, G3⟩, d, R3, rx, ?_⟩
          show (match setT t d (wipeR T.r vs) with
            | .ok r' => _
            | _ => False)
          rw [g1]
          intro s4 R4 a4
          have w4 : L2.wipe s4 vs = L2.wipe s vs := (Agree.wipe a4 hsl).trans (wipe_idem s vs)
          have wr : wipeR r2 vs = wipeR T.r vs := (AgreeR.wipe ag hsl).trans (wipeR_idem T.r vs)
          refine ⟨w4, ⟨T.G0, T.H0, r2, G3⟩, R4, ?_⟩
          show KE K mg EZ ⟨T.G0, T.H0, r2, G3⟩ s4 H3 _ (ft r2)
          rw [g2]
          intro G5 H5 eg5 eh5 nw5 R5
          have hl3 : H5 Dl = some (.lst acc) := eh5 _ _ (eh3 _ _ hl)
          have g5D : G5 Dl = none := by
            cases q : G5 Dl with
            | none => rfl
            | some o =>
              cases q3 : G3 Dl with
              | none =>
                have z := nw5.st Dl o q q3
                rw [eh3 _ _ hl] at z
                cases z
              | some o3 =>
                have z := nw3.st Dl o3 q3 hg
                rw [hl] at z
                cases z
          have stepO : ∀ {G6 H6 : Hp}, Rel K T.G0 T.H0 r2 s4 G6 H6 → Ex G5 G6 → Ex H5 H6 → Nw G5 G6 H5 → Rel K T.G0 T.H0 T.r s G6 H6 ∧ Rel K T.G0 T.H0 (wipeR T.r vs) (L2.wipe s vs) G6 H6 := fun {G6 H6} R6 e1 e2 n6 => by
            have RW := R6.wipe vs (fun i hi => by rw [a4.1, wipe_length]; exact hvs i hi)
            rw [wr, w4] at RW
            have n36 : Nw G3 G6 H3 := Nw.trans nw5 n6 eh5
            exact ⟨R3o.step (eg5.trans e1) (eh5.trans e2) R6.gh n36, RW⟩
          cases b with
          | false =>
            show ∃ G' acc ys zs', _
            obtain ⟨RO, RW⟩ := stepO R5 (Same.refl _) (Same.refl _) (Nw.refl _ _)
            refine ⟨G5, acc, ys, zs', RW, (eg2.trans eg3).trans eg5, (eh2.trans eh3).trans eh5, ?_, (eB2.trans eh3).trans eh5, hl3, g5D, (ra.mono eg3).mono eg5, go, ez, by omega, RO⟩
            exact Nw.trans (Nw.trans nw2 nw3 eh2) nw5 (eh2.trans eh3)
          | true =>
            have go' : ((noE (fe r2)).bnd fun y => (imD y).bnd fun y => (lcGo t ft fe (wipeR T.r vs) (ds.drop (i + 1))).bnd fun ys => .ok (y :: ys)) = .ok zs' := go
            obtain ⟨y, g3, go2⟩ := bnd_eq_ok go'
            obtain ⟨y', g4, go3⟩ := bnd_eq_ok go2
            obtain ⟨ys2, g5, go4⟩ := bnd_eq_ok go3
            have g3 := noE_ok g3
            obtain ⟨ey, no⟩ := imD_ok g4
            have ezz : y' :: ys2 = zs' := PL.R.ok.inj go4
            subst ey
            subst ezz
            show tE K mg EZ fe s4 H5 _
            refine ⟨⟨T.G0, T.H0, r2, G5⟩, R5, ?_⟩
            show KE K mg EZ ⟨T.G0, T.H0, r2, G5⟩ s4 H5 _ (fe r2)
            rw [g3]
            intro G6 H6 eg6 eh6 nw6 R6 v rv
            have hl6 : H6 Dl = some (.lst acc) := eh6 _ _ hl3
            have g6D : G6 Dl = none := by
              cases q : G6 Dl with
              | none => rfl
              | some o =>
                have z := nw6.st Dl o q g5D
                rw [hl3] at z
                cases z
            obtain ⟨RO, RW⟩ := stepO R6 eg6 eh6 nw6
            have ra6 : RpA K G6 acc ys := ((ra.mono eg3).mono eg5).mono eg6
            have own2 : ∀ i, ¬ OwnAt T.r s i Dl := fun i o => by
              obtain ⟨⟨u, e⟩, _⟩ := own_in R1 o
              rw [e] at hD
              cases hD
            refine ⟨acc, hl6, ?_, G6, acc ++ [v], ys ++ [y'], ys2, RW.mut g6D h0D own1, ((eg2.trans eg3).trans eg5).trans eg6, ?_, ?_, ?_, upd_same, g6D, ra6.snoc (RpE.im no rv), g5, ?_, ?_, RO.mut g6D h0D own2⟩
            · have := ra.length
              omega
            · exact ex_into (((eh2.trans eh3).trans eh5).trans eh6) hD
            · exact Nw.trans (Nw.trans (Nw.trans nw2 nw3 eh2) nw5 (eh2.trans eh3)) nw6 ((eh2.trans eh3).trans eh5)
            · exact ex_into (((eB2.trans eh3).trans eh5).trans eh6) hB
            · rw [List.append_assoc]
              exact ez
            · rw [List.length_append]
              simp only [List.length_cons, List.length_nil]
              omega
        · rintro H' ⟨G', acc, ys, zs', R2, eg2, eh2, nw2, eB2, hl, hg, ra, go, ez, yl, R2o⟩
          have dn : ds.drop ds.length = [] := List.drop_length
          rw [dn] at go
          cases go
          rw [List.append_nil] at ez
          subst ez
          exact h1 G' H' (eg.trans eg2) (eh.trans eh2) (Nw.trans nw1 nw2 eh) R2o Dl acc (eh.free hD) hl hg ra
section
variable {X : Cx} {E : WX} {pos : Pos} {elt tg iter : Expr} {ifs : List Expr} {scope : Scope} {fi : Rho → R (List D)} {ft : Rho → R Bool} {fe : Rho → R D} {t : Tg}
def ETs (X : Cx) (E : WX) (ifs : List Expr) (f : Rho → R Bool) : Prop := PTs X ifs (tT X.K X.mg E f)
theorem pts_imp {X : Cx} {e : List Expr} {t t' : TT} (h : PTs X e t) (i : ∀ s H Q, t' s H Q → t s H Q) : PTs X e t' := ⟨fun pins s σ H Q I q => h.run pins s σ H Q I (i _ _ _ q)⟩
theorem ets_nil : ETs X E [] (fun _ => .ok true) := pts_imp pts_nil fun s H Q ⟨T, R, h⟩ => KE.here h R
theorem ets_one {c : Expr} (h : ET X E c ft) : ETs X E [c] ft := pts_one h
theorem blk_lt {N : List Str} {sc scope : Scope} {own : List (Str × Nat)} {s : St} (ok : BlkOk N sc scope own) (e : s.length = N.length) : ∀ i ∈ own.map (·.2), i < s.length := fun i hi => by
  obtain ⟨p, hp, rfl⟩ := List.mem_map.mp hi
  exact n_lt (ok.ix p hp) e
theorem en_lc (own : List (Str × Nat)) (hc : X.calm = true) (hN : X.N.Nodup) (hi : EI X E true tg iter fi) (ok : BlkOk X.N X.env.scope scope own)
    (hg : ∀ (s : Shared) (H : Hp) (C : Addr) (cl : List (Str × Addr)) (fp : List Addr), EG (X.blk s H scope (compEnvC scope cl C X.env) fp) tg t) (ht : ∀ (s : Shared) (H : Hp) (C : Addr) (cl : List (Str × Addr)) (fp : List Addr), ETs (X.blk s H scope (compEnvC scope cl C X.env) fp) EZ ifs ft)
    (he : ∀ (s : Shared) (H : Hp) (C : Addr) (cl : List (Str × Addr)) (fp : List Addr), EV (X.blk s H scope (compEnvC scope cl C X.env) fp) EZ elt fe) (hsl : (t.slots.all fun i => (own.map (·.2)).contains i) = true := by rfl) (hs : ∀ x, foldedSetIterable iter X.env x = pure x := by intro _; rfl) :
    EN X E (.ListComp elt [⟨tg, iter, ifs, 0⟩] scope pos) (fLc (own.map (·.2)) t fi ft fe) :=
  pe_impL (pe_lc (g := tG X.K t) (tt := tT X.K X.mg EZ ft) (te := tE X.K X.mg EZ fe) hc hN hi ok hg ht he hs) fun s H Q sl h => lc_red (fun i hi => by
    have := List.all_eq_true.mp hsl i hi
    simpa using this) (blk_lt ok sl) h
end
end PL
end
section
namespace PL
open PySem PySem.Spec PyProof.Rows L2
inductive Fl where
  | nx (r : Rho) | bk (r : Rho) | ct (r : Rho) | rt (d : D) | rm (d : D) (os : List Ob)
def KS (K : PySem.W.Frag) (mg : Str → Option Value) (E : WX) (T : Stt) (Z : Ends) : R Fl → Prop
  | .ok (.nx r') => ∀ s' G' H', Ex T.G G' → Rel K T.G0 T.H0 r' s' G' H' → Z.nx s' H'
  | .ok (.bk r') => ∀ s' G' H', Ex T.G G' → Rel K T.G0 T.H0 r' s' G' H' → Z.bk s' H'
  | .ok (.ct r') => ∀ s' G' H', Ex T.G G' → Rel K T.G0 T.H0 r' s' G' H' → Z.ct s' H'
  | .ok (.rt d) => ∀ v G' H', Ex T.G0 G' → Ex T.H0 H' → Ex (um G') H' → (∀ a, H' a = none → G' a = none) → (∀ a o, G' a = some o → T.G0 a = none → T.H0 a = none) → Rp K G' v d → Z.rt v H'
  | .ok (.rm d os) => ∀ v G' H', Ex T.G0 G' → Ex T.H0 H' → Ex (um G') H' → (∀ a, H' a = none → G' a = none) → (∀ a o, G' a = some o → T.G0 a = none → T.H0 a = none) → StOk K T.H0 G' H' true os → RpO K G' v d → Z.rt v H'
  | .err c => ∀ s' H', Ex T.H0 H' → E (clsV mg c) none s' H'
  | .stuck => False
def tS (K : PySem.W.Frag) (mg : Str → Option Value) (E : WX) (f : Rho → R Fl) : TS := fun Z s H => ∃ T, Rl K T s H ∧ KS K mg E T Z (f T.r)
def SS (X : Cx) (E : WX) (st : Stmt) (f : Rho → R Fl) : Prop := PS X st (tS X.K X.mg E f)
def SSs (X : Cx) (E : WX) (st : List Stmt) (f : Rho → R Fl) : Prop := PSs X st (tS X.K X.mg E f)
theorem ps_imp {X : Cx} {e : Stmt} {t t' : TS} (h : PS X e t) (i : ∀ Z s H, t' Z s H → t Z s H) : PS X e t' := ⟨fun pins s σ H Z I q => h.run pins s σ H Z I (i _ _ _ q)⟩
theorem ps_impL {X : Cx} {e : Stmt} {t t' : TS} (h : PS X e t) (i : ∀ Z s H, s.length = X.N.length → t' Z s H → t Z s H) : PS X e t' := ⟨fun pins s σ H Z I q => h.run pins s σ H Z I (i _ _ _ I.len q)⟩
theorem pss_imp {X : Cx} {e : List Stmt} {t t' : TS} (h : PSs X e t) (i : ∀ Z s H, t' Z s H → t Z s H) : PSs X e t' := ⟨fun pins s σ H Z I q => h.run pins s σ H Z I (i _ _ _ q)⟩
section
variable {K : PySem.W.Frag} {mg : Str → Option Value} {E : WX}
theorem KS.mono {T T' : Stt} {Z : Ends} {x : R Fl} (h : KS K mg E T Z x) (e0 : T'.G0 = T.G0) (e1 : T'.H0 = T.H0) (e : Ex T.G T'.G) : KS K mg E T' Z x := by
  obtain ⟨g0, h0, r, g⟩ := T
  obtain ⟨g0', h0', r', g'⟩ := T'
  simp only at e0 e1 e
  subst e0 e1
  cases x with
  | ok f =>
    cases f with
    | nx r' => exact fun s' G' H' a b => h s' G' H' (e.trans a) b
    | bk r' => exact fun s' G' H' a b => h s' G' H' (e.trans a) b
    | ct r' => exact fun s' G' H' a b => h s' G' H' (e.trans a) b
    | rt d => exact h
    | rm d os => exact h
  | err c => exact h
  | stuck => exact h
theorem KS.bnd {α : Type} {T : Stt} {Z : Ends} {s : St} {H : Hp} {x : R α} {k : α → R Fl} {P : α → Hp → Hp → Prop} (h : KS K mg E T Z (x.bnd k))
    (hk : ∀ d G' H', x = .ok d → Ex T.G G' → Ex H H' → Rel K T.G0 T.H0 T.r s G' H' → KS K mg E { T with G := G' } Z (k d) → P d G' H') : KE K mg E T s H P x := by
  cases x with
  | ok d => exact fun G' H' a b _ c => hk d G' H' rfl a b c (KS.mono (T' := { T with G := G' }) h rfl rfl a)
  | err c => exact fun H' e0 _ => h s H' e0
  | stuck => exact h
end
def fNx (r : Rho) : R Fl := .ok (.nx r)
def fSeq (f g : Rho → R Fl) (r : Rho) : R Fl := (f r).bnd fun x => match x with
  | .nx r' => g r'
  | .bk r' => .ok (.bk r')
  | .ct r' => .ok (.ct r')
  | .rt d => .ok (.rt d)
  | .rm d os => .ok (.rm d os)
section
variable {X : Cx} {E : WX} {st : Stmt} {rest b1 b2 : List Stmt} {f g f1 f2 : Rho → R Fl} {e c : Expr} {fe : Rho → R D} {fc : Rho → R Bool} {pos : Pos}
theorem sss_nil : SSs X E [] fNx := pss_imp pss_nil fun Z s H ⟨T, R, h⟩ => h s T.G H (Same.refl _) R
theorem sss_cons (h1 : SS X E st f) (h2 : SSs X E rest g) : SSs X E (st :: rest) (fSeq f g) :=
  pss_imp (pss_cons h1 h2) fun Z s H ⟨T, R, h⟩ => ⟨T, R, by
    unfold fSeq at h
    cases e : f T.r with
    | ok x =>
      rw [e] at h
      cases x with
      | nx r' => exact fun s' G' H' a b => ⟨{ T with r := r', G := G' }, b, KS.mono (T' := { T with r := r', G := G' }) (show KS X.K X.mg E T Z (g r') from h) rfl rfl a⟩
      | bk r' => exact h
      | ct r' => exact h
      | rt d => exact h
      | rm d os => exact h
    | err c => rw [e] at h; exact h
    | stuck => rw [e] at h; exact h⟩
theorem sss_one (h1 : SS X E st f) : SSs X E [st] f := pss_one h1
def fIfS (fc : Rho → R Bool) (f1 f2 : Rho → R Fl) (r : Rho) : R Fl := (fc r).bnd fun b => if b then f1 r else f2 r
theorem ss_if (hc : ET X E c fc) (h1 : SSs X E b1 f1) (h2 : SSs X E b2 f2) : SS X E (.If c b1 b2 pos) (fIfS fc f1 f2) :=
  ps_imp (ps_if hc h1 h2) fun Z s H ⟨T, R, h⟩ => ⟨T, R, KS.bnd h fun b G1 H1 _ eg eh R1 h1 => by
    cases b with
    | true => exact ⟨{ T with G := G1 }, R1, h1⟩
    | false => exact ⟨{ T with G := G1 }, R1, h1⟩⟩
def outD (r : Rho) : D → R D
  | .own i => match r[i]? with
    | some (.ol ds) => .ok (.lst ds)
    | _ => .stuck
  | .obj _ => .stuck
  | .tpo _ => .stuck
  | d => .ok d
def fRet (fe : Rho → R D) (r : Rho) : R Fl := (fe r).bnd fun d => (outD r d).bnd fun d => .ok (.rt d)
theorem KS.out {K : PySem.W.Frag} {mg : Str → Option Value} {T : Stt} {s : St} {H : Hp} {Z : Ends} {d : D} {v : V} (h : KS K mg E T Z ((outD T.r d).bnd fun d => .ok (.rt d))) (R : Rl K T s H) (rv : RpE K T.G s v d) : Z.rt v H := by
  have im : ∀ d', Rp K T.G v d' → KS K mg E T Z (.ok (.rt d')) → Z.rt v H := fun d' r' h' => h' v T.G H R.gg R.hh R.gh R.gf R.nw r'
  cases d with
  | own i =>
    simp only [outD] at h
    cases e : T.r[i]? with
    | none => rw [e] at h; exact h.elim
    | some x =>
      rw [e] at h
      have q := R.sl i x e
      rw [show s[i]? = some (some v) from rv] at q
      have froze : ∀ {o : HO} {a : Addr} {d' : D} [UnM o], V.ref a = v → H a = some o → T.G a = none → T.H0 a = none → Rp K (upd T.G a o) v d' → KS K mg E T Z (.ok (.rt d')) → Z.rt v H := fun {o a d'} um' ev h1 h2 h3 h4 h5 => by
        refine h5 v (upd T.G a o) H (R.gg.trans (ex_new h2)) R.hh (fun b u q => ?_) (fun b q => ?_) (fun b u q n => ?_) h4
        · rw [um_upd um'.h] at q
          by_cases z : b = a
          · subst z
            rw [upd_same] at q
            rw [h1, ← q]
          · rw [upd_ne z] at q
            exact R.gh _ _ q
        · by_cases z : b = a
          · rw [z, h1] at q; cases q
          · rw [upd_ne z]; exact R.gf b q
        · by_cases z : b = a
          · rw [z]; exact h3
          · rw [upd_ne z] at q
            exact R.nw b u q n
      cases x with
      | ol ds =>
        obtain ⟨a, xs, e1, e2, e3, e4, e5⟩ := q
        have ev : v = .ref a := Option.some.inj e1
        subst ev
        exact froze rfl e2 e3 e4 (Rp.lst upd_same (e5.mono (ex_new e3))) h
      | _ => exact h.elim
  | obj k => exact h.elim
  | tpo k => exact h.elim
  | _ => exact im _ rv h
theorem ss_ret (he : EV X E e fe) : SS X E (.Return (some e) pos) (fRet fe) :=
  ps_imp (ps_ret he) fun Z s H ⟨T, R, h⟩ => ⟨T, R, KS.bnd h fun d G1 H1 _ eg eh R1 h1 v rv => KS.out (T := { T with G := G1 }) h1 R1 rv⟩
def fExpr (fe : Rho → R D) (r : Rho) : R Fl := (fe r).bnd fun _ => .ok (.nx r)
theorem ss_expr (he : EV X E e fe) (hs : swapsWith e none pos.line X.env = pure false := by rfl) : SS X E (.Expr e pos) (fExpr fe) :=
  ps_imp (ps_expr he hs) fun Z s H ⟨T, R, h⟩ => ⟨T, R, KS.bnd h fun d G1 H1 _ eg eh R1 h1 v rv => h1 s G1 H1 (Same.refl _) R1⟩
def fAsg (t : Tg) (fe : Rho → R D) (r : Rho) : R Fl := (fe r).bnd fun d => (imD d).bnd fun d => (setT t d r).bnd fun r' => .ok (.nx r')
theorem asg_red {K : PySem.W.Frag} {mg : Str → Option Value} {t : Tg} {Z : Ends} {s : St} {H : Hp} (h : tS K mg E (fAsg t fe) Z s H) : tAsg (tE K mg E fe) (tG K t) Z s H := by
  obtain ⟨T, R, h⟩ := h
  refine ⟨T, R, KS.bnd h fun d G1 H1 _ eg eh R1 h1 v rv => ?_⟩
  unfold imD at h1
  cases e : noOwn d with
  | false => rw [e] at h1; exact h1.elim
  | true =>
    rw [e] at h1
    refine ⟨{ T with G := G1 }, d, R1, .pure (RpE.im e rv), ?_⟩
    have h2 : KS K mg E { T with G := G1 } Z ((setT t d T.r).bnd fun r' => .ok (.nx r')) := h1
    show (match setT t d T.r with
      | .ok r' => _
      | _ => False)
    cases e2 : setT t d T.r with
    | ok r' =>
      rw [e2] at h2
      exact fun s' R' a => h2 s' G1 H1 (Same.refl _) R'
    | err c =>
      exfalso
      exact absurd e2 (setT_noerr t d T.r c)
    | stuck => rw [e2] at h2; exact h2
where
  setT_noerr : ∀ (t : Tg) (d : D) (r : Rho) (c : Str), setT t d r ≠ .err c
    | .nm i, d, r, c => by
      simp only [setT]
      split
      · exact fun z => by cases z
      · exact fun z => by cases z
    | .tp ts, .tup ds, r, c => by
      simp only [setT]
      exact setTs_noerr ts ds r c
    | .tp ts, .non, r, c => fun h => by cases h
    | .tp ts, .bl _, r, c => fun h => by cases h
    | .tp ts, .int _, r, c => fun h => by cases h
    | .tp ts, .str _, r, c => fun h => by cases h
    | .tp ts, .lst ds, r, c => by
      simp only [setT]
      exact setTs_noerr ts ds r c
    | .tp ts, .dic _, r, c => fun h => by cases h
    | .tp ts, .own _, r, c => fun h => by cases h
    | .tp ts, .scr _, r, c => fun h => by cases h
    | .tp ts, .tpn _, r, c => fun h => by cases h
    | .tp ts, .exc _, r, c => fun h => by cases h
    | .tp ts, .fn _, r, c => fun h => by cases h
    | .tp ts, .obj _, r, c => fun h => by cases h
    | .tp ts, .tpo ds, r, c => by
      simp only [setT]
      exact setTs_noerr ts ds r c
  setTs_noerr : ∀ (ts : List Tg) (ds : List D) (r : Rho) (c : Str), setTs ts ds r ≠ .err c
    | [], [], r, c => fun h => by cases h
    | [], _ :: _, _, _ => fun h => by simp [setTs] at h
    | _ :: _, [], _, _ => fun h => by simp [setTs] at h
    | t :: ts, d :: ds, r, c => fun h => by
      simp only [setTs] at h
      cases e : setT t d r with
      | ok r1 =>
        rw [e] at h
        exact setTs_noerr ts ds r1 c h
      | err c' => exact setT_noerr t d r c' e
      | stuck => rw [e] at h; cases h
theorem tG_nm {K : PySem.W.Frag} {i : Nat} {v : V} {s : St} {H : Hp} {Q : St → Hp → Prop} (hs : i < s.length) (h : tG K (.nm i) v s H Q) : gName i v s H Q := by
  obtain ⟨T, d, R, rv, h⟩ := h
  simp only [setT] at h
  cases e : decide (i < T.r.length) with
  | false => rw [e] at h; exact h.elim
  | true =>
    rw [e] at h
    exact h _ (R.setIm rv hs) ⟨List.length_set, fun j hj => List.getElem?_set_ne (fun z => hj (by simp [Tg.slots, z]))⟩
theorem tE_imp {K : PySem.W.Frag} {mg : Str → Option Value} {s : St} {H : Hp} {Q Q' : VK} (h : tE K mg E fe s H Q) (i : ∀ v H, Q v H → Q' v H) : tE K mg E fe s H Q' := by
  obtain ⟨T, R, h⟩ := h
  exact ⟨T, R, KE.imp h fun d G' H' _ _ _ q v rv => i _ _ (q v rv)⟩
theorem ss_set (i : Nat) {x : Str} {pos' : Pos} (hN : X.N.Nodup) (he : EV X E e fe) (hi : X.N[i]? = some x := by rfl) (hx : Loc X.env.scope x := by first | exact Or.inl rfl | exact Or.inr rfl) (hs : swapsWith e (some (.Name x pos')) pos.line X.env = pure false := by rfl) (hf : X.fn x = true ∨ X.env.scope.names.lookup x = some .local := by first | exact .inl rfl | exact .inr rfl | assumption) :
    SS X E (.Assign [.Name x pos'] e pos) (fAsg (.nm i) fe) :=
  ps_impL (ps_set hN hi hx he hs hf) fun Z s H sl h => tE_imp (asg_red h) fun v H q => tG_nm (n_lt hi sl) q
theorem ss_asg {t : Tg} {tg : Expr} (he : EV X E e fe) (hg : EG X tg t) (hs : swapsWithSole [tg] e pos.line X.env = pure false := by rfl) (hw : swappedStores [tg] e X.env = pure none := by rfl)
    (h1 : (assignEach [tg] X.env).map (·.2) = [assign tg X.env] := by rfl) : SS X E (.Assign [tg] e pos) (fAsg t fe) :=
  ps_imp (ps_asg he hg hs hw h1) fun Z s H h => asg_red h
def fAsgN (i : Nat) (fs : Rho → R (List D)) (r : Rho) : R Fl := (fs r).bnd fun ds => if decide (i < r.length) then .ok (.nx (r.set i (.ol ds))) else .stuck
theorem asgN_red {K : PySem.W.Frag} {mg : Str → Option Value} {i : Nat} {fs : Rho → R (List D)} {Z : Ends} {s : St} {H : Hp} (hs : i < s.length) (h : tS K mg E (fAsgN i fs) Z s H) : tAsg (tN K mg E fs) (gName i) Z s H := by
  obtain ⟨T, R, h⟩ := h
  refine ⟨T, R, KS.bnd h fun ds G1 H1 _ eg eh R1 h1 p xs hp h2 hg hr => ?_⟩
  cases e : decide (i < T.r.length) with
  | false => rw [e] at h1; exact h1.elim
  | true =>
    rw [e] at h1
    have hn : ∀ j, j ≠ i → ¬ OwnAt T.r s j p := fun j _ o => by
      obtain ⟨⟨u, e⟩, _⟩ := own_in R o
      rw [e] at hp
      cases hp
    exact h1 _ G1 H1 (Same.refl _) (R1.setOl h2 hg (R.hh.free hp) hn hr hs)
theorem ss_setN (i : Nat) {x : Str} {pos' : Pos} {fs : Rho → R (List D)} (hN : X.N.Nodup) (he : EN X E e fs) (hi : X.N[i]? = some x := by rfl) (hx : Loc X.env.scope x := by first | exact Or.inl rfl | exact Or.inr rfl) (hs : swapsWith e (some (.Name x pos')) pos.line X.env = pure false := by rfl) (hf : X.fn x = true ∨ X.env.scope.names.lookup x = some .local := by first | exact .inl rfl | exact .inr rfl | assumption) :
    SS X E (.Assign [.Name x pos'] e pos) (fAsgN i fs) :=
  ps_impL (ps_set hN hi hx he hs hf) fun Z s H sl h => asgN_red (n_lt hi sl) h
section
variable {elt tg iter : Expr} {ifs : List Expr} {scope : Scope} {fi : Rho → R (List D)} {ft : Rho → R Bool} {fe : Rho → R D} {t : Tg} {y : Str} {py spos : Pos}
theorem ss_setLc (i : Nat) (own : List (Str × Nat)) (hc : X.calm = true) (hN : X.N.Nodup) (hi : EI X E true tg iter fi) (ok : BlkOk X.N X.env.scope scope own)
    (hg : ∀ (s : Shared) (H : Hp) (C : Addr) (cl : List (Str × Addr)) (fp : List Addr), EG (X.blk s H scope (compEnvC scope cl C X.env) fp) tg t) (ht : ∀ (s : Shared) (H : Hp) (C : Addr) (cl : List (Str × Addr)) (fp : List Addr), ETs (X.blk s H scope (compEnvC scope cl C X.env) fp) EZ ifs ft)
    (he : ∀ (s : Shared) (H : Hp) (C : Addr) (cl : List (Str × Addr)) (fp : List Addr), EV (X.blk s H scope (compEnvC scope cl C X.env) fp) EZ elt fe) (hy : X.N[i]? = some y := by rfl) (hyl : X.env.scope.names.lookup y = some .local := by rfl)
    (hsw : swapsWith (.ListComp elt [⟨tg, iter, ifs, 0⟩] scope pos) (some (.Name y py)) spos.line X.env = pure true := by exact sw_true rfl rfl rfl (by decide +kernel)) (hsl : (t.slots.all fun i => (own.map (·.2)).contains i) = true := by rfl) (hs : ∀ x, foldedSetIterable iter X.env x = pure x := by intro _; rfl) :
    SS X E (.Assign [.Name y py] (.ListComp elt [⟨tg, iter, ifs, 0⟩] scope pos) spos) (fAsg (.nm i) (fL (fLc (own.map (·.2)) t fi ft fe))) :=
  ps_impL (ps_setLc (g := tG X.K t) (tt := tT X.K X.mg EZ ft) (te := tE X.K X.mg EZ fe) hc hN hy hyl hsw hi ok hg ht he hs) fun Z s H sl h => lc_red (fun i hi => by
    have := List.all_eq_true.mp hsl i hi
    simpa using this) (blk_lt ok sl) (tN_tE (tE_imp (asg_red h) fun v H q => tG_nm (n_lt hy sl) q))
end
def fPar (i j : Nat) (fs : Rho → R (List D)) (r : Rho) : R Fl := (fs r).bnd fun ds => match ds with
  | [x, y] => if decide (i < r.length ∧ j < r.length) then .ok (.nx ((r.set i (.im x)).set j (.im y))) else .stuck
  | _ => .stuck
theorem ss_par (i j : Nat) {x y : Str} {a b : Expr} {fs : Rho → R (List D)} {px py pt : Pos} {kt k2 pt2} (hc : X.calm = true) (hN : X.N.Nodup) (ha : EA X E [a, b] fs) (hi : X.N[i]? = some x := by rfl) (hj : X.N[j]? = some y := by rfl) (hij : i ≠ j := by decide)
    (hx : X.env.scope.names.lookup x = some .local := by rfl) (hy : X.env.scope.names.lookup y = some .local := by rfl)
    (hw : swappedStores [.Tuple [.Name x px, .Name y py] kt pt] (.Tuple [a, b] k2 pt2) X.env = pure (some [x, y]) := by rfl)
    (hs : swapsWithSole [.Tuple [.Name x px, .Name y py] kt pt] (.Tuple [a, b] k2 pt2) pos.line X.env = pure false := by rfl) :
    SS X E (.Assign [.Tuple [.Name x px, .Name y py] kt pt] (.Tuple [a, b] k2 pt2) pos) (fPar i j fs) :=
  ps_impL (ps_par hc hN hi hj hij hx hy ha hw hs) fun Z s H sl ⟨T, R, h⟩ => ⟨T, R, KS.bnd h fun ds G1 H1 _ eg eh R1 h1 vs rvs => by
    cases rvs with
    | nil => exact h1.elim
    | @cons v vs d ds r1 r2 =>
      cases r2 with
      | nil => exact h1.elim
      | @cons v2 vs2 d2 ds2 r3 r4 =>
        cases r4 with
        | cons _ _ => exact h1.elim
        | nil =>
          simp only at h1
          cases e : decide (i < T.r.length ∧ j < T.r.length) with
          | false => rw [e] at h1; exact h1.elim
          | true =>
            rw [e] at h1
            have e2 := of_decide_eq_true e
            exact ⟨v, v2, rfl, h1 _ G1 H1 (Same.refl _) ((R1.setIm (.pure r1) (n_lt hi sl)).setIm (.pure r3) (by rw [List.length_set]; exact n_lt hj sl))⟩⟩
theorem Rel.setOwn {K : PySem.W.Frag} {G0 H0 G H : Hp} {r : Rho} {s : St} {i : Nat} {a : Addr} {xs : List V} {ds : List D} (R : Rel K G0 H0 r s G H) (o : OwnAt r s i a) (hr : RpA K G xs ds) : Rel K G0 H0 (r.set i (.ol ds)) s G (upd H a (.lst xs)) := by
  obtain ⟨⟨u, hu⟩, hg, h0⟩ := own_in R o
  have hsl : i < s.length := (List.getElem?_eq_some_iff.mp o.2).1
  have hi : i < r.length := Nat.lt_of_lt_of_le hsl R.ln.lo
  have ow : ∀ j b, OwnAt (r.set i (.ol ds)) s j b → OwnAt r s j b := fun j b h => by
    by_cases e : j = i
    · subst e
      have e1 := h.2
      have e2 := o.2
      rw [e1] at e2
      cases e2
      exact o
    · have h1 := h.1
      rw [List.getElem?_set_ne (Ne.symm e)] at h1
      exact ⟨h1, h.2⟩
  refine ⟨R.gg, ex_into R.hh h0, ex_into R.gh (um_none hg), fun b q => R.gf_upd q, R.nw, fun j x hx => ?_, fun j k b h1 h2 => R.ds j k b (ow j b h1) (ow k b h2), R.ln.setr hsl _⟩
  by_cases e : j = i
  · subst e
    rw [List.getElem?_set_self hi] at hx
    cases hx
    rw [o.2]
    exact ⟨a, xs, rfl, upd_same, hg, h0, hr⟩
  · rw [List.getElem?_set_ne (Ne.symm e)] at hx
    have q := R.sl j x hx
    have ne : ∀ b, isOwn (some x) → (s[j]?.join) = some (V.ref b) → b ≠ a := fun b ix eb z => by
      subst z
      refine e (R.ds j i b ⟨by rw [hx]; exact ix, ?_⟩ o)
      cases e6 : s[j]? with
      | none => rw [e6] at eb; cases eb
      | some w => rw [e6] at eb; exact congrArg some eb
    cases x with
    | un => exact q
    | im d => exact q
    | ol es =>
      obtain ⟨b, ys, e1, e2, e3, e4, e5⟩ := q
      exact ⟨b, ys, e1, by rw [upd_ne (ne b trivial e1)]; exact e2, e3, e4, e5⟩
    | od es =>
      obtain ⟨b, ys, e1, e2, e3, e4, e5⟩ := q
      exact ⟨b, ys, e1, by rw [upd_ne (ne b trivial e1)]; exact e2, e3, e4, e5⟩
    | st w os => exact StOk.off hg q
theorem own_at {K : PySem.W.Frag} {T : Stt} {s : St} {H : Hp} {i : Nat} {ds : List D} (R : Rl K T s H) (h : T.r[i]? = some (.ol ds)) : ∃ a xs, OwnAt T.r s i a ∧ s[i]? = some (some (.ref a)) ∧ H a = some (.lst xs) ∧ RpA K T.G xs ds := by
  obtain ⟨a, xs, e1, e2, e3, e4, e5⟩ := R.sl i _ h
  have e3 : s[i]? = some (some (.ref a)) := by
    cases e4 : s[i]? with
    | none => rw [e4] at e1; cases e1
    | some o => rw [e4] at e1; exact congrArg some e1
  exact ⟨a, xs, ⟨by rw [h]; trivial, e3⟩, e3, e2, e5⟩
def fApp (i : Nat) (fe : Rho → R D) (r : Rho) : R Fl := match r[i]? with
  | some (.ol ds) => (fe r).bnd fun d => (imD d).bnd fun d => if decide (ds.length < sizeLine) then .ok (.nx (r.set i (.ol (ds ++ [d])))) else .stuck
  | _ => .stuck
theorem ss_app (i : Nat) {x : Str} {p apos cpos : Pos} (he : EV X E e fe) (hN : X.N[i]? = some x := by rfl) (hv : Vis X.env.scope x := by first | exact Or.inl rfl | exact Or.inr (Or.inl rfl) | exact Or.inr (Or.inr rfl)) (hd : (x == ("__debug__" : Str)) = false := by decide) (hcd : (x == ("__classdict__" : Str)) = false := by decide)
    (hbase : attributeBase (.Name x p) "append" X.env (eval (.Name x p) X.env) = eval (.Name x p) X.env := by rfl)
    (hfew : ((backTo cpos (starEach [e] X.env)).all (fun x => !x.1) && (backToKw cpos (keywordEach [] X.env)).all (fun x => x.1.isSome)
      && decide ([e].length + ([] : List Keyword).length + (if ([] : List Keyword).isEmpty then 0 else 1) < 30)) = true := by rfl)
    (hline : (apos.endLine == cpos.line) = true := by rfl) (hs : starEach [e] X.env = (false, eval e X.env) :: starEach [] X.env := by rfl) (hplain : (backTo cpos (starEach [] X.env)).any (·.1) = false := by rfl) (hsw : swapsWith (.Call (.Attribute (.Name x p) "append" apos) [e] [] cpos) none pos.line X.env = pure false := by rfl) :
    SS X E (.Expr (.Call (.Attribute (.Name x p) "append" apos) [e] [] cpos) pos) (fApp i fe) :=
  ps_imp (ps_expr (pe_bm PySem.F.plainAttrs_list PySem.F.slot_list_append PySem.F.type_list_append mt_append (pe_var (i := i) hN hv hd hcd) (pa_cons he pa_nil hs) hbase hfew hline hs hplain) hsw) fun Z s H ⟨T, R, h⟩ => by
    unfold fApp at h
    cases e1 : T.r[i]? with
    | none => rw [e1] at h; exact h.elim
    | some x =>
      cases x with
      | ol ds =>
        rw [e1] at h
        obtain ⟨a, xs, o, e3, e2, e5⟩ := own_at R e1
        refine ⟨_, e3, .inl ⟨rfl, xs, SqL.of e2⟩, T, R, KS.bnd h fun d G1 H1 _ eg eh R1 h1 v rv => ?_⟩
        unfold imD at h1
        cases e6 : noOwn d with
        | false => rw [e6] at h1; exact h1.elim
        | true =>
          rw [e6] at h1
          have h2 : KS X.K X.mg E { T with G := G1 } Z (if decide (ds.length < sizeLine) then .ok (.nx (T.r.set i (.ol (ds ++ [d])))) else .stuck) := h1
          cases e7 : decide (ds.length < sizeLine) with
          | false => rw [e7] at h2; exact h2.elim
          | true =>
            rw [e7] at h2
            refine ⟨a, xs, v, rfl, rfl, eh _ _ e2, by rw [e5.length]; exact of_decide_eq_true e7, ?_⟩
            exact h2 s G1 _ (Same.refl _) (R1.setOwn o ((e5.mono eg).snoc (RpE.im e6 rv)))
      | _ => rw [e1] at h; exact h.elim
def fExt (i : Nat) (fe : Rho → R D) (r : Rho) : R Fl := match r[i]? with
  | some (.ol ds) => (fe r).bnd fun d => match d with
    | .lst es => if decide (ds.length + es.length ≤ sizeLine) then .ok (.nx (r.set i (.ol (ds ++ es)))) else .stuck
    | _ => .stuck
  | _ => .stuck
theorem ss_ext (i : Nat) {x : Str} {p apos cpos : Pos} (he : EV X E e fe) (hN : X.N[i]? = some x := by rfl) (hv : Vis X.env.scope x := by first | exact Or.inl rfl | exact Or.inr (Or.inl rfl) | exact Or.inr (Or.inr rfl)) (hd : (x == ("__debug__" : Str)) = false := by decide) (hcd : (x == ("__classdict__" : Str)) = false := by decide)
    (hbase : attributeBase (.Name x p) "extend" X.env (eval (.Name x p) X.env) = eval (.Name x p) X.env := by rfl)
    (hfew : ((backTo cpos (starEach [e] X.env)).all (fun x => !x.1) && (backToKw cpos (keywordEach [] X.env)).all (fun x => x.1.isSome)
      && decide ([e].length + ([] : List Keyword).length + (if ([] : List Keyword).isEmpty then 0 else 1) < 30)) = true := by rfl)
    (hline : (apos.endLine == cpos.line) = true := by rfl) (hs : starEach [e] X.env = (false, eval e X.env) :: starEach [] X.env := by rfl) (hplain : (backTo cpos (starEach [] X.env)).any (·.1) = false := by rfl) (hsw : swapsWith (.Call (.Attribute (.Name x p) "extend" apos) [e] [] cpos) none pos.line X.env = pure false := by rfl) :
    SS X E (.Expr (.Call (.Attribute (.Name x p) "extend" apos) [e] [] cpos) pos) (fExt i fe) :=
  ps_imp (ps_expr (pe_bm PySem.F.plainAttrs_list PySem.F.slot_list_extend PySem.F.type_list_extend mt_extend (pe_var (i := i) hN hv hd hcd) (pa_cons he pa_nil hs) hbase hfew hline hs hplain) hsw) fun Z s H ⟨T, R, h⟩ => by
    unfold fExt at h
    cases e1 : T.r[i]? with
    | none => rw [e1] at h; exact h.elim
    | some x =>
      cases x with
      | ol ds =>
        rw [e1] at h
        obtain ⟨a, xs, o, e3, e2, e5⟩ := own_at R e1
        refine ⟨_, e3, .inl ⟨rfl, xs, SqL.of e2⟩, T, R, KS.bnd h fun d G1 H1 _ eg eh R1 h1 v rv => ?_⟩
        cases d with
        | lst es =>
          simp only at h1
          cases (show Rp X.K G1 v (.lst es) from rv) with
          | @lst b ys _ q1 q2 =>
            cases e7 : decide (ds.length + es.length ≤ sizeLine) with
            | false => rw [e7] at h1; exact h1.elim
            | true =>
              rw [e7] at h1
              refine ⟨a, b, xs, ys, rfl, rfl, eh _ _ e2, R1.at q1 rfl, by rw [e5.length, q2.length]; exact of_decide_eq_true e7, ?_⟩
              exact h1 s G1 _ (Same.refl _) (R1.setOwn o ((e5.mono eg).append q2))
        | _ => exact h1.elim
      | _ => rw [e1] at h; exact h.elim
def fSetIx (i : Nat) (fk fe : Rho → R D) (r : Rho) : R Fl := match r[i]? with
  | some (.ol ds) => (fe r).bnd fun d => (imD d).bnd fun d => (fk r).bnd fun k => match k with
    | .int k => (match ixN ds.length k with
      | some j => .ok (.nx (r.set i (.ol (ds.set j d))))
      | none => .stuck)
    | _ => .stuck
  | _ => .stuck
end
end PL
end
section
namespace PL
open PySem PySem.Spec PyProof.Rows L2
section
variable {X : Cx} {E : WX} {st : Stmt} {rest b1 b2 body : List Stmt} {f g f1 f2 fb : Rho → R Fl} {e c k tg iter : Expr} {fe fk : Rho → R D} {fc : Rho → R Bool} {pos : Pos} {t : Tg} {fi : Rho → R (List D)}
def forGo (t : Tg) (fb : Rho → R Fl) : List D → Rho → R Fl
  | [], r => .ok (.nx r)
  | d :: ds, r => (noE (setT t d r)).bnd fun r2 => (fb r2).bnd fun x => match x with
    | .nx r' => forGo t fb ds r'
    | .ct r' => forGo t fb ds r'
    | .bk r' => .ok (.nx r')
    | .rt d => .ok (.rt d)
    | .rm d os => .ok (.rm d os)
def fFor (t : Tg) (fi : Rho → R (List D)) (fb : Rho → R Fl) (r : Rho) : R Fl := (fi r).bnd fun ds => forGo t fb ds r
theorem ss_for (hp : PassesOwn (model X.prog X.w) X.A X.env X.xe) (hc : X.calm = true) (hi : EI X E false tg iter fi) (hg : EG X tg t) (hb : SSs X E body fb) (hs : ∀ x, foldedSetIterable iter X.env x = pure x := by intro _; rfl) : SS X E (.For tg iter body [] pos) (fFor t fi fb) :=
  ps_imp (ps_for hp hc hi hg hb hs) fun Z s H ⟨T, R, h⟩ => ⟨T, R, KS.bnd h fun ds G1 H1 _ eg eh R1 h1 J B eB hB wk => by
    have hB : B = um G1 := hB rfl
    rw [hB] at wk
    clear hB eB
    refine for_it wk (fun i s' H' => ∃ r' G', Rel X.K T.G0 T.H0 r' s' G' H' ∧ Ex G1 G' ∧ KS X.K X.mg E ⟨T.G0, T.H0, r', G'⟩ Z (forGo t fb (ds.drop i) r')) ?_ ?_ ?_ ?_
    · exact ⟨T.r, G1, R1, Same.refl _, by rw [List.drop_zero]; exact h1⟩
    · rintro i s' H' _ ⟨r', G', R', eg', _⟩
      exact (um_ex eg').trans R'.gh
    · rintro i x s2 H2 H3 hi ⟨r', G', R2, eg2, k2⟩ ⟨d, hd, yd⟩
      have dr : ds.drop i = d :: ds.drop (i + 1) := by
        have hlt := (List.getElem?_eq_some_iff.mp hd).1
        rw [List.drop_eq_getElem_cons hlt]
        congr 1
        exact (List.getElem?_eq_some_iff.mp hd).2
      rw [dr] at k2
      simp only [forGo] at k2
      obtain ⟨G3, R3, rx, eg3⟩ : ∃ G3, Rel X.K T.G0 T.H0 r' s2 G3 H3 ∧ RpO X.K G3 x d ∧ Ex G' G3 := by
        rcases yd with ⟨e1, e2⟩ | ⟨p, ys, es, e1, e2, e3, e4, e5⟩
        · subst e1
          exact ⟨G', R2, e2.mono eg2, Same.refl _⟩
        · subst e1 e3 e4
          have xg : Ex G' (upd G' p (.tup ys)) := ex_new (R2.gf _ e2)
          exact ⟨upd G' p (.tup ys), R2.new e2, .pure (.tup (SqT.of upd_same) ((e5.mono eg2).mono xg)), xg⟩
      refine ⟨⟨T.G0, T.H0, r', G3⟩, d, R3, rx, ?_⟩
      show (match setT t d r' with
        | .ok r' => _
        | _ => False)
      cases e1 : setT t d r' with
      | err c => rw [e1] at k2; exact k2.elim
      | stuck => rw [e1] at k2; exact k2.elim
      | ok r3 =>
        rw [e1] at k2
        intro s4 R4 _
        refine ⟨⟨T.G0, T.H0, r3, G3⟩, R4, ?_⟩
        have k3 : KS X.K X.mg E ⟨T.G0, T.H0, r', G'⟩ Z ((fb r3).bnd fun x => match x with
          | .nx r' => forGo t fb (ds.drop (i + 1)) r'
          | .ct r' => forGo t fb (ds.drop (i + 1)) r'
          | .bk r' => .ok (.nx r')
          | .rt d => .ok (.rt d)
          | .rm d os => .ok (.rm d os)) := k2
        show KS X.K X.mg E ⟨T.G0, T.H0, r3, G3⟩ _ (fb r3)
        cases e2 : fb r3 with
        | err c => rw [e2] at k3; exact k3
        | stuck => rw [e2] at k3; exact k3
        | ok x =>
          rw [e2] at k3
          cases x with
          | nx r5 => exact fun s5 G5 H5 a b => ⟨r5, G5, b, (eg2.trans eg3).trans a, KS.mono (T := ⟨T.G0, T.H0, r', G'⟩) k3 rfl rfl (eg3.trans a)⟩
          | ct r5 => exact fun s5 G5 H5 a b => ⟨r5, G5, b, (eg2.trans eg3).trans a, KS.mono (T := ⟨T.G0, T.H0, r', G'⟩) k3 rfl rfl (eg3.trans a)⟩
          | bk r5 => exact fun s5 G5 H5 a b => (show KS X.K X.mg E ⟨T.G0, T.H0, r', G'⟩ Z (.ok (.nx r5)) from k3) s5 G5 H5 (eg3.trans a) b
          | rt d => exact k3
          | rm d os => exact k3
    · rintro s' H' ⟨r', G', R', eg', k'⟩
      have dn : ds.drop ds.length = [] := List.drop_length
      rw [dn] at k'
      exact k' s' G' H' (Same.refl _) R'⟩
def whGo (fc : Rho → R Bool) (fb : Rho → R Fl) : Nat → Rho → R Fl
  | 0, _ => .stuck
  | n + 1, r => (fc r).bnd fun b => if b then (fb r).bnd fun x => match x with
    | .nx r' => whGo fc fb n r'
    | .ct r' => whGo fc fb n r'
    | .bk r' => .ok (.nx r')
    | .rt d => .ok (.rt d)
    | .rm d os => .ok (.rm d os) else .ok (.nx r)
def fWh (m : Rho → Nat) (fc : Rho → R Bool) (fb : Rho → R Fl) (r : Rho) : R Fl := whGo fc fb (m r) r
theorem ss_while (m : Rho → Nat) (hp : PassesOwn (model X.prog X.w) X.A X.env X.xe) (hc : ET X E c fc) (hb : SSs X E body fb) : SS X E (.While c body [] pos) (fWh m fc fb) :=
  ps_imp (ps_while hp hc hb) fun Z s H ⟨T, R, h⟩ => by
    refine ⟨fun n s' H' => ∃ r' G', Rel X.K T.G0 T.H0 r' s' G' H' ∧ KS X.K X.mg E ⟨T.G0, T.H0, r', G'⟩ Z (whGo fc fb n r'), ⟨m T.r, T.r, T.G, R, h⟩, ?_⟩
    rintro n s1 H1 ⟨r1, G1, R1, k1⟩
    cases n with
    | zero => exact k1.elim
    | succ n =>
      simp only [whGo] at k1
      refine ⟨⟨T.G0, T.H0, r1, G1⟩, R1, KS.bnd (T := ⟨T.G0, T.H0, r1, G1⟩) k1 fun b G2 H2 _ eg eh R2 k2 => ?_⟩
      cases b with
      | false => exact k2 s1 G2 H2 (Same.refl _) R2
      | true =>
        have k3 : KS X.K X.mg E ⟨T.G0, T.H0, r1, G2⟩ Z ((fb r1).bnd fun x => match x with
          | .nx r' => whGo fc fb n r'
          | .ct r' => whGo fc fb n r'
          | .bk r' => .ok (.nx r')
          | .rt d => .ok (.rt d)
          | .rm d os => .ok (.rm d os)) := k2
        refine ⟨fun s' H' => ∃ r' G', Rel X.K T.G0 T.H0 r' s' G' H' ∧ KS X.K X.mg E ⟨T.G0, T.H0, r', G'⟩ Z (whGo fc fb n r'), fun s' H' q => ⟨n, Nat.lt_succ_self n, q⟩, ⟨T.G0, T.H0, r1, G2⟩, R2, ?_⟩
        show KS X.K X.mg E ⟨T.G0, T.H0, r1, G2⟩ _ (fb r1)
        cases e2 : fb r1 with
        | err c => rw [e2] at k3; exact k3
        | stuck => rw [e2] at k3; exact k3
        | ok x =>
          rw [e2] at k3
          cases x with
          | nx r5 => exact fun s5 G5 H5 a b => ⟨r5, G5, b, KS.mono (T := ⟨T.G0, T.H0, r1, G2⟩) k3 rfl rfl a⟩
          | ct r5 => exact fun s5 G5 H5 a b => ⟨r5, G5, b, KS.mono (T := ⟨T.G0, T.H0, r1, G2⟩) k3 rfl rfl a⟩
          | bk r5 => exact fun s5 G5 H5 a b => (show KS X.K X.mg E ⟨T.G0, T.H0, r1, G2⟩ Z (.ok (.nx r5)) from k3) s5 G5 H5 a b
          | rt d => exact k3
          | rm d os => exact k3
def ErrC (K : PySem.W.Frag) (mg : Str → Option Value) (x : Str) : Prop := ∃ C, mg x = some (.ref C) ∧ PySem.W.excIn K C [.type "ValueError", .type "Exception", .type "BaseException", .type "object"] "ValueError.__new__" = true ∧ PySem.W.keepIn K (.ref C) = true ∧ PySem.W.subIn K (.ref C) (.type "BaseException") = some true ∧ PySem.W.typeIn K (.ref C) = some (.type "type")
theorem ss_raise {x m : Str} {j : Nat} {p p2 p3 : Pos} (q : ErrC X.K X.mg x) (hc : X.calm = true) (tk : Takes X E) (hg : Gl X x) (hdb : (x == ("__debug__" : Str)) = false := by decide) :
    SS X E (.Raise (some (.Call (.Name x p) [.Constant (.str m) j p2] [] p3)) none pos) (fun _ => .err x) := by
  obtain ⟨C, h1, h2, h3, h4, h5⟩ := q
  refine ps_imp (ps_raise hc tk (pmk_own PySem.F.excBase_ValueError h2 h1 h3 (raises_own h4 h5) hg hdb)) fun Z s H ⟨T, R, h⟩ => ?_
  have h6 := h s H R.hh
  have e : clsV X.mg x = .ref C := by unfold clsV; rw [h1]; rfl
  rw [e] at h6
  exact h6
end
def runF (fb : Rho → R Fl) (n : Nat) (ds : List D) : R D := match fb (ds.map .im ++ List.replicate (n - ds.length) .un) with
  | .ok (.nx _) => .ok .non
  | .ok (.rt d) => .ok d
  | .ok _ => .stuck
  | .err c => .err c
  | .stuck => .stuck
theorem start_get {N : List Str} {vs : List V} {i : Nat} : (start N vs)[i]?.join = (vs[i]?) := by
  unfold L2.start
  by_cases h : i < vs.length
  · rw [List.getElem?_append_left (by rw [List.length_map]; exact h), List.getElem?_map, List.getElem?_eq_getElem h]
    rfl
  · rw [List.getElem?_append_right (by rw [List.length_map]; omega), List.getElem?_eq_none (by omega : vs.length ≤ i), List.getElem?_replicate]
    split <;> rfl
def runO (fb : Rho → R Fl) (n : Nat) (ds : List D) : R D := match fb (ds.map .im ++ List.replicate (n - ds.length) .un ++ [.st true []]) with
  | .ok (.nx _) => .ok .non
  | .ok (.rt d) => .ok d
  | .ok _ => .stuck
  | .err c => .err c
  | .stuck => .stuck
theorem rel_start0 {K : PySem.W.Frag} {G H : Hp} {N : List Str} {vs : List V} {ds : List D} {tl : List Sl} (hl : N.length = vs.length ∨ vs.length ≤ N.length) (e : Ex G H) (no : ∀ a o, G a = some o → isMk o = false) (r : RpA K G vs ds) (ht : tl = [] ∨ tl = [.st true []]) : Rel K G H (ds.map .im ++ List.replicate (N.length - ds.length) .un ++ tl) (start N vs) G H := by
  have len : (start N vs).length = (ds.map Sl.im ++ List.replicate (N.length - ds.length) Sl.un).length := by
    have := r.length
    unfold L2.start
    simp only [List.length_append, List.length_map, List.length_replicate]
    omega
  have tls : ∀ i x, (ds.map Sl.im ++ List.replicate (N.length - ds.length) Sl.un).length ≤ i → (ds.map Sl.im ++ List.replicate (N.length - ds.length) Sl.un ++ tl)[i]? = some x → x = .st true [] := fun i x hi hx => by
    rw [List.getElem?_append_right hi] at hx
    rcases ht with rfl | rfl
    · simp at hx
    · have := (List.getElem?_eq_some_iff.mp hx).1
      simp only [List.length_cons, List.length_nil] at this
      rw [show i - (ds.map Sl.im ++ List.replicate (N.length - ds.length) Sl.un).length = 0 by omega] at hx
      simpa using hx.symm
  have slots : ∀ i x, i < (ds.map Sl.im ++ List.replicate (N.length - ds.length) Sl.un).length → (ds.map Sl.im ++ List.replicate (N.length - ds.length) Sl.un ++ tl)[i]? = some x → (∃ d, x = .im d ∧ ds[i]? = some d) ∨ x = .un := fun i x hi hx => by
    rw [List.getElem?_append_left hi] at hx
    by_cases h : i < ds.length
    · rw [List.getElem?_append_left (by rw [List.length_map]; exact h), List.getElem?_map, List.getElem?_eq_getElem h] at hx
      cases hx
      exact .inl ⟨_, rfl, List.getElem?_eq_getElem h⟩
    · rw [List.getElem?_append_right (by rw [List.length_map]; omega), List.getElem?_replicate] at hx
      split at hx
      · cases hx; exact .inr rfl
      · cases hx
  refine ⟨Same.refl _, Same.refl _, fun a o q => e _ _ (um_is q).1, fun a q => e.free q, fun a o h n => (by rw [h] at n; cases n), fun i x hx => ?_, fun i j a h1 h2 => ?_, ⟨by rw [len]; simp, by rw [len]; rcases ht with rfl | rfl <;> simp <;> omega, fun i x hx => ?_⟩⟩
  · by_cases h : i < (ds.map Sl.im ++ List.replicate (N.length - ds.length) Sl.un).length
    · rcases slots i x h hx with ⟨d, rfl, hd⟩ | rfl
      · rw [start_get]
        obtain ⟨v, e1, e2⟩ := r.get hd
        exact ⟨v, e1, .pure e2⟩
      · trivial
    · rw [tls i x (by omega) hx]
      refine ⟨fun k ob q => by simp at q, fun a b k ha _ => ?_, fun a k ha => ?_, fun a k ha _ => ?_⟩ <;> exact absurd (no a _ ha) (by simp [mrk, isMk])
  · exfalso
    obtain ⟨q, _⟩ := h1
    cases hx : (ds.map Sl.im ++ List.replicate (N.length - ds.length) Sl.un ++ tl)[i]? with
    | none => rw [hx] at q; exact q
    | some x =>
      rw [hx] at q
      by_cases h : i < (ds.map Sl.im ++ List.replicate (N.length - ds.length) Sl.un).length
      · rcases slots i x h hx with ⟨d, rfl, _⟩ | rfl
        · exact q
        · exact q
      · rw [tls i x (by omega) hx] at q
        exact q
  · by_cases h : i < (ds.map Sl.im ++ List.replicate (N.length - ds.length) Sl.un).length
    · refine ⟨fun q => ?_, fun q => by omega⟩
      rcases slots i x h hx with ⟨d, rfl, _⟩ | rfl
      · exact q.elim
      · exact q.elim
    · rw [tls i x (by omega) hx]
      exact ⟨fun _ => by omega, fun _ => trivial⟩
theorem pre_len {N P : List Str} {sc : Scope} (S : FnScope N P sc) : P.length ≤ N.length := by
  have := congrArg List.length S.pre
  rw [List.length_take] at this
  omega
theorem run_core {K : PySem.W.Frag} {mg : Str → Option Value} {E : XK} {s : St} {G H : Hp} {Q : VK} {x : R Fl} {r : Rho} (no : ∀ a o, G a = some o → isMk o = false) (h : match (match x with
  | .ok (.nx _) => R.ok D.non
  | .ok (.rt d) => .ok d
  | .ok _ => .stuck
  | .err c => .err c
  | .stuck => .stuck) with
  | .ok d => Post K G H d Q
  | .err c => ∀ H', Ex H H' → E (clsV mg c) none H'
  | .stuck => False) : KS K mg (fun cls d _ H => E cls d H) ⟨G, H, r, G⟩ { nx := fun _ H' => Q .non H', rt := Q } x := by
  have gm : ∀ {G'}, Ex G G' → Ex G (um G') := fun {G'} eg a o q => um_of (eg _ _ q) (no a o q)
  cases x with
  | err c => exact fun _ => h
  | stuck => exact h
  | ok f =>
    cases f with
    | nx r' => exact fun s' G' H' _ b => h .non (um G') H' (gm b.gg) b.hh b.gh (fun a o q => (um_is q).2) (fun a o q n => b.nw a o (um_is q).1 n) .non
    | bk r' => exact h.elim
    | ct r' => exact h.elim
    | rt d => exact fun v G' H' a b c f n rv => h v (um G') H' (gm a) b c (fun a o q => (um_is q).2) (fun a o q z => n a o (um_is q).1 z) rv.um
    | rm d os => exact h.elim
theorem run_red {K : PySem.W.Frag} {mg : Str → Option Value} {E : XK} {N : List Str} {vs : List V} {n : Nat} {H : Hp} {Q : VK} {fb : Rho → R Fl} (hl : n ≤ N.length) (h : spF K mg n (runF fb N.length) vs H Q E) : tS K mg (fun cls d _ H => E cls d H) fb { nx := fun _ H' => Q .non H', rt := Q } (start N vs) H := by
  obtain ⟨G, ds, e, no, r, hn, h⟩ := h
  have R := rel_start0 (N := N) (tl := []) (.inr (by rw [r.length, hn]; exact hl)) e no r (.inl rfl)
  rw [List.append_nil] at R
  exact ⟨⟨G, H, _, G⟩, R, run_core (s := start N vs) no h⟩
theorem run_redO {K : PySem.W.Frag} {mg : Str → Option Value} {E : XK} {N : List Str} {vs : List V} {n : Nat} {H : Hp} {Q : VK} {fb : Rho → R Fl} (hl : n ≤ N.length) (h : spF K mg n (runO fb N.length) vs H Q E) : tS K mg (fun cls d _ H => E cls d H) fb { nx := fun _ H' => Q .non H', rt := Q } (start N vs) H := by
  obtain ⟨G, ds, e, no, r, hn, h⟩ := h
  exact ⟨⟨G, H, _, G⟩, rel_start0 (N := N) (tl := [.st true []]) (.inr (by rw [r.length, hn]; exact hl)) e no r (.inr rfl), run_core (s := start N vs) no h⟩
section
variable {P : Program} {w : World} {K : PySem.W.Frag} {mg : Str → Option Value} {base : Heap}
structure Cxt (X : Cx) (E : WX) (k : Nat) : Prop where
  hr : Room k X.A
  hx : ∀ σ, PassesAt (L2.CX X.prog X.w) X σ (WE E σ)
  hc : X.calm = true
  nd : X.N.Nodup
  po : PassesOwn (model X.prog X.w) X.A X.env X.xe
  tk : Takes X E
theorem fn_ok {x : Str} {params : Arguments} {body : List Stmt} {scope : Scope} {f : Addr} {fd : FuncData} {N ps : List Str} {k : Nat} {fb : Rho → R Fl} (F : FunD K x x params body scope [] [] f fd) (S : FnScope N ps scope)
    (hbody : ∀ (cdv : Value) (A : Around) (outer : List Env) (s : Shared) (H : Hp) (E : XK), Cxt (cxOf (L2.CX P w) P w K mg base N x scope f cdv A outer s H E) (fun cls d _ H => E cls d H) k → SSs (cxOf (L2.CX P w) P w K mg base N x scope f cdv A outer s H E) (fun cls d _ H => E cls d H) body fb) :
    FnOk P w K mg base (L2.CX P w) (k + 1) f fd ps (spF K mg ps.length (runF fb N.length)) := by
  refine F.ok S (fun vs H Q E h => ?_) fun cdv A outer s H vs Q E hr h => ?_
  · obtain ⟨G, ds, _, _, r, hn, _⟩ := h
    rw [r.length, hn]
  · have tk : Takes (cxOf (L2.CX P w) P w K mg base N x scope f cdv A outer s H E) (fun cls d _ H => E cls d H) := takes_of rfl rfl rfl rfl
    exact ⟨_, hbody cdv A outer s H E ⟨hr, fun σ => passAt tk σ, rfl, S.nd, passes_of rfl, tk⟩, run_red (pre_len S) h⟩
theorem fn_def {x : Str} {params : Arguments} {body : List Stmt} {scope : Scope} {f : Addr} {fd : FuncData} {N ps : List Str} {k : Nat} {fb : Rho → R Fl} (F : FunD K x x params body scope [] [] f fd) (hm : mg x = some (.ref f)) (S : FnScope N ps scope)
    (hb : ∀ (kV doc pm : Value) (an : Option Addr) (cdv ct : Value) (us : List Value), us.length = ps.length → bindArgs (PySem.W.fnOf x x params body scope .none kV doc pm an cdv ct) ⟨us, []⟩ = pure (ps.zip us))
    (hbody : ∀ (cdv : Value) (A : Around) (outer : List Env) (s : Shared) (H : Hp) (E : XK), Cxt (cxOf (L2.CX P w) P w K mg base N x scope f cdv A outer s H E) (fun cls d _ H => E cls d H) k → SSs (cxOf (L2.CX P w) P w K mg base N x scope f cdv A outer s H E) (fun cls d _ H => E cls d H) body fb) :
    Fn P w K mg base (k + 1) x ps.length (runF fb N.length) := ⟨f, fd, ps, hm, F.kp, F.bindsN hb, fn_ok F S hbody⟩
end
end PL
end
section
namespace PL
open PySem PySem.Spec PyProof.Rows L2
theorem tuple_mul1 (l : Addr) (items : Array Value) (n : Nat) (dd : Option Addr) (sl : Array (Option Value)) (u : Tok) :
    Meets (Builtin.«tuple.__mul__» ⟨[.ref l, .int 1 u], []⟩) (fun _ R s => s.heap.get? l = some { cls := .type "tuple", dict := dd, data := .seq items n, slots := sl } ∧
      R (.ok (.ret (Value.ref l))) s) :=
  .of_wp fun prog w A R s h => by
    obtain ⟨hp, g, d, tk, os⟩ := s
    obtain ⟨hl, h⟩ := h
    have f1 := AutoSeq1.idx_int
    have c1 : (items.isEmpty || (1 : Int) == 1) = true := by simp
    wp_walk using wpAny_loadPart' hl
    exact ⟨_, rfl, h⟩
def rRepT1 (K : PySem.W.Frag) : R2 := fun x y H Q => ∃ l xs, x = .ref l ∧ y = .int 1 ∧ SqT K H l xs ∧ Q (.ref l) H
theorem op_repT1 {X : Cx} : OpR X (binaryOp .Mult) (rRepT1 X.K) := by
  intro pins s σ H x y v u Q I rx ry h
  obtain ⟨l, xs, rfl, rfl, hT, q⟩ := h
  cases rx
  obtain ⟨t, rfl⟩ := ry
  obtain ⟨its, r, ⟨⟨cls, dd, data, sl⟩, ho, hc, n, hd⟩, hs⟩ := I.tuple hT
  simp only at hc hd
  subst hc hd
  exact wpAny_binaryOp_repeat_ref (T := "tuple") (U := "int") (by decide) ⟨_, ho, rfl⟩ (fun s' => typeIs_int s' 1 t) noFill_tuple_mul F.fills_int_mul F.slot_int_rmul repeat_tuple F.slot_int_index.lookup
    (call_meets F.slot_int_rmul (typeIs_int s 1 t) F.entry_int_rmul (F.args_int_rmul_2 _ _) (int_rmul_tuple 1 t l its.toArray n dd sl)
      ⟨ho, rfl, ⟨_, ho, rfl⟩, call_meets F.slot_tuple_mul ⟨_, ho, rfl⟩ F.entry_tuple_mul (F.args_tuple_mul_2 _ _) (tuple_mul1 l its.toArray n dd sl t) ⟨ho, ⟨.ref l, H, I, rfl, q⟩⟩⟩)
noncomputable def repB (n : Nat) (k : Int) : Bool := okB (-(2 ^ 63) ≤ k ∧ k < 2 ^ 63 ∧ n * k.toNat ≤ sizeLine)
noncomputable def mulD (r : Rho) (x y : D) : R D := match x, y with
  | .int i, .int j => if mulB i j then .ok (.int (i * j)) else .stuck
  | .tup ds, .int k => if decide (k = 1) then .ok (.tup ds) else if okB (ds ≠ [] ∧ 2 ≤ k ∧ k ≤ 1000 ∧ ds.length ≤ 1000) then .ok (.tup (List.replicate k.toNat ds).flatten) else .stuck
  | x, .int k => match viewL r x with
    | some ds => if repB ds.length k then .ok (.lst (List.replicate k.toNat ds).flatten) else .stuck
    | none => .stuck
  | _, _ => .stuck
abbrev rMulD (K : PySem.W.Frag) : R2 := fun x y H Q => rI CM (fun i j => .int (i * j)) x y H Q ∨ rRep x y H Q ∨ rRepT K x y H Q ∨ rRepT1 K x y H Q
theorem op_mulD {X : Cx} : OpR X (binaryOp .Mult) (rMulD X.K) := op_mulA.or (op_rep.or (op_repT.or op_repT1))
theorem ops_mulD {K : PySem.W.Frag} : OpS K (rMulD K) mulD := by
  intro mg E T s H x y dx dy Q R rx ry h
  cases dy with
  | int k =>
    cases (show Rp K T.G y (.int k) from ry)
    have lists : KE K mg E T s H (fun d G' H' => ∀ v, RpE K G' s v d → Q v H') (match viewL T.r dx with
      | some ds => if repB ds.length k then .ok (.lst (List.replicate k.toNat ds).flatten) else .stuck
      | none => .stuck) → rMulD K x (.int k) H Q := fun hk => by
      cases e : viewL T.r dx with
      | none => rw [e] at hk; exact hk.elim
      | some es =>
        rw [e] at hk
        simp only at hk
        cases e2 : repB es.length k with
        | false => rw [e2] at hk; exact hk.elim
        | true =>
          rw [e2] at hk
          obtain ⟨a, xs, rfl, hq, hr⟩ := viewL_ok R rx e
          have e3 := okB_iff.mp e2
          refine .inr (.inl ⟨a, k, xs, rfl, rfl, hq, e3.1, e3.2.1, by rw [hr.length]; exact e3.2.2, fun l hl => ?_⟩)
          exact finNew (.lst _) hk R hl (Rp.lst upd_same ((hr.replicate k.toNat).mono (ex_new (R.gf _ hl))))
    cases dx with
    | int i =>
      cases (show Rp K T.G x (.int i) from rx)
      exact .inl (ops_mulI mg E T s H _ _ (.int i) (.int k) Q R rx ry h)
    | tup ds =>
      obtain ⟨p, xs, rfl, hp0, hp, hr⟩ := tup_ok R rx
      simp only [mulD] at h
      cases e1 : decide (k = 1) with
      | true =>
        rw [e1] at h
        have e2 := of_decide_eq_true e1
        subst e2
        exact .inr (.inr (.inr ⟨p, xs, rfl, rfl, hp, fin (.tup ds) h R (Rp.tup hp0 hr)⟩))
      | false =>
        rw [e1] at h
        have h2 : KE K mg E T s H (fun d G' H' => ∀ v, RpE K G' s v d → Q v H') (if okB (ds ≠ [] ∧ 2 ≤ k ∧ k ≤ 1000 ∧ ds.length ≤ 1000) then .ok (.tup (List.replicate k.toNat ds).flatten) else .stuck) := h
        cases e2 : okB (ds ≠ [] ∧ 2 ≤ k ∧ k ≤ 1000 ∧ ds.length ≤ 1000) with
        | false => rw [e2] at h2; exact h2.elim
        | true =>
          rw [e2] at h2
          have e3 := okB_iff.mp e2
          refine .inr (.inr (.inl ⟨p, k, xs, rfl, rfl, hp, fun z => ?_, e3.2.1, e3.2.2.1, by rw [hr.length]; exact e3.2.2.2, fun l hl => ?_⟩))
          · subst z
            cases hr
            exact e3.1 rfl
          · exact finNew (.tup _) h2 R hl (Rp.tup (SqT.of upd_same) ((hr.replicate k.toNat).mono (ex_new (R.gf _ hl))))
    | _ => exact lists h
  | _ => cases dx <;> exact h.elim
def intsOf : List D → Option (List Int)
  | [] => some []
  | .int b :: ds => (intsOf ds).map (b :: ·)
  | _ => none
theorem intsOf_ok {K : PySem.W.Frag} {G : Hp} : ∀ {v : List V} {d : List D} {bs : List Int}, intsOf d = some bs → RpA K G v d → v = bs.map V.int
  | _, [], bs, h, .nil => by cases h; rfl
  | _, d :: ds, bs, h, .cons h1 r => by
    cases d with
    | int b =>
      have h2 : (intsOf ds).map (b :: ·) = some bs := h
      cases e : intsOf ds with
      | none => rw [e] at h2; cases h2
      | some cs =>
        rw [e] at h2
        cases h2
        cases h1
        rw [intsOf_ok e r]
        rfl
    | _ => cases h
def intsD (g : List Int → R D) (r : Rho) : List D → R D
  | [d] => match viewL r d with
    | some ds => (match intsOf ds with
      | some bs => g bs
      | none => .stuck)
    | none => .stuck
  | _ => .stuck
theorem ints_core {K : PySem.W.Frag} {mg : Str → Option Value} {E : WX} {g : List Int → R D} {T : Stt} {s : St} {H : Hp} {xs : List V} {ds : List D} {Q : VK} (R : Rl K T s H) (rs : RpL K T.G s xs ds)
    (h : KE K mg E T s H (fun d G' H' => ∀ v, RpE K G' s v d → Q v H') (intsD g T.r ds)) : ∃ (a : Addr) (bs : List Int), xs = [.ref a] ∧ SqL K H a (bs.map V.int) ∧ KE K mg E T s H (fun d G' H' => ∀ v, RpE K G' s v d → Q v H') (g bs) := by
  cases rs with
  | nil => exact h.elim
  | @cons v vs d ds rv rr =>
    cases rr with
    | cons _ _ => exact h.elim
    | nil =>
      simp only [intsD] at h
      cases e : viewL T.r d with
      | none => rw [e] at h; exact h.elim
      | some es =>
        rw [e] at h
        simp only at h
        cases e2 : intsOf es with
        | none => rw [e2] at h; exact h.elim
        | some bs =>
          rw [e2] at h
          obtain ⟨a, xs, rfl, hq, hr⟩ := viewL_ok R rv e
          have ex := intsOf_ok e2 hr
          subst ex
          exact ⟨a, bs, rfl, SqL.of hq, h⟩
def sumD : Rho → List D → R D := intsD fun bs => .ok (.int bs.sum)
theorem cs_sum {K : PySem.W.Frag} : CallS K (rSum K) sumD := fun mg E T s H xs ds Q R rs h => by
  obtain ⟨a, bs, e1, e2, e3⟩ := ints_core R rs h
  exact ⟨a, bs, e1, e2, fin (.int _) e3 R (Rp.int _)⟩
def fFrz (i : Nat) (g : Rho → R Fl) (r : Rho) : R Fl := match r[i]? with
  | some (.ol ds) => g (r.set i (.im (.lst ds)))
  | some (.od ks) => g (r.set i (.im (.dic ks)))
  | _ => .stuck
def mAbs (i : Nat) (r : Rho) : Nat := match r[i]? with
  | some (.im (.int z)) => z.natAbs + 2
  | _ => 0
abbrev fK (d : D) : Rho → R D := fun _ => .ok d
structure Bts (mg : Str → Option Value) : Prop where
  len : mg "len" = none
  isinstance : mg "isinstance" = none
  range : mg "range" = none
  tuple : mg "tuple" = none
  list : mg "list" = none
  dict : mg "dict" = none
  zip : mg "zip" = none
  sorted : mg "sorted" = none
  all : mg "all" = none
  any : mg "any" = none
  enumerate : mg "enumerate" = none
  set : mg "set" = none
  str : mg "str" = none
  abs : mg "abs" = none
  int : mg "int" = none
  bool : mg "bool" = none
  max : mg "max" = none
  min : mg "min" = none
  sum : mg "sum" = none
end PL
end
section
namespace PL
open PySem PySem.Spec PyProof.Rows L2
def tkey (e : Int × Value) : Str := match e.2 with
  | .str k _ => k
  | _ => Str.empty
def TSt (w : World) (h : Heap) (a : Addr) (ks : List Str) : Prop :=
  ∃ o es ep t, h.get? a = some o ∧ o.ExactSet ∧ o.data = .set es ep t ∧ (∀ e ∈ es.toList, ∃ k tk, e.2 = Value.str k tk ∧ e.1 = hashStr w k) ∧ (es.toList.map tkey).Perm ks ∧ ks.Nodup ∧
    es.size < scanBound ∧ t.fits es.size = true ∧ Ris t.place.toList ∧ (w.params.followText "set-order" = true ∨ t.led = true)
section
variable {P : Program} {w : World} {A : Around} {E : Value → Shared → Prop} {s : Shared} {a : Addr} {ks : List Str}
theorem TSt.keep {h h' : Heap} (R : TSt w h a ks) (k : ∀ o, h.get? a = some o → h'.get? a = some o) : TSt w h' a ks := by
  obtain ⟨o, es, ep, t, ho, r⟩ := R
  exact ⟨o, es, ep, t, k o ho, r⟩
theorem tel {l : List (Int × Value)} (g : ∀ e ∈ l, ∃ k tk, e.2 = Value.str k tk ∧ e.1 = hashStr w k) : ElemsOf (PySem.strKind P w) l := fun e he => by
  obtain ⟨k, tk, h1, h2⟩ := g e he
  exact ⟨⟨k, by rw [h1]; exact strKind_is P w k tk, h2⟩, by rw [h1] <;> rfl⟩
theorem tis {e : Int × Value} (g : ∃ k tk, e.2 = Value.str k tk ∧ e.1 = hashStr w k) (k : Str) : (PySem.strKind P w).is k e.2 = true ↔ tkey e = k := by
  obtain ⟨k0, tk, h1, _⟩ := g
  unfold tkey
  rw [h1]
  constructor
  · intro z
    have z2 : Value.isStrOf k (.str k0 tk) = true := z
    simpa [Value.isStrOf] using z2
  · intro z
    have z2 : k0 = k := z
    rw [z2]
    exact strKind_is P w k tk
theorem tst_tail {g : Bool → Sem Unit} (hg : ∀ (b : Bool) (s1 : Shared) (Q' : Unit → Shared → Prop), Q' () s1 → wpAny (model P w) A (g b) Q' E s1)
    {o : Obj} {es : Array (Int × Value)} {ep : Nat} {t : SetTable} (ho : s.heap.get? a = some o) (hex : o.ExactSet) (hd : o.data = .set es ep t)
    {es1 : Array (Int × Value)} {t2 : SetTable} (g1 : ∀ e ∈ es1.toList, ∃ k tk, e.2 = Value.str k tk ∧ e.1 = hashStr w k) (p1 : (es1.toList.map tkey).Perm ks) (nd1 : ks.Nodup)
    (hb1 : es1.size < scanBound) (hf2 : t2.fits es1.size = true) (hr : Ris t2.place.toList) (hl : w.params.followText "set-order" = true ∨ t2.led = true) {wasDummy : Bool} {R : Option Bool → Shared → Prop}
    (hR : ∀ h', Heap.SameBut a s.heap h' → TSt w h' a ks → R (some true) { s with heap := h' }) :
    wpAny (model P w) A (do
        storeSet a es1 t2
        if (!wasDummy && t2.tooFull) = true then do
            g (relayAll t2 es1 (SetTable.grown es1.size)).2.2
            storeSet a (relayAll t2 es1 (SetTable.grown es1.size)).1 (relayAll t2 es1 (SetTable.grown es1.size)).2.1
            pure (some true)
          else pure (some true)) R E s := by
  refine wpAny_bind (wpAny_storeSet_of ho hd ?_ (fits_of_scanBound hb1))
  have ho1 := store_at (es' := es1) (t' := t2) ho hd
  have sb1 := Heap.SameBut.update s.heap a (Obj.putSet es1 t2)
  split
  · have pm := relayAll_perm t2 es1 (SetTable.grown es1.size)
    have hf3 := relayAll_fits t2 es1 (SetTable.grown es1.size)
    have hr3 := relayAll_ris t2 es1 (SetTable.grown es1.size)
    have hl3 := relayAll_led t2 es1 (SetTable.grown es1.size)
    generalize relayAll t2 es1 (SetTable.grown es1.size) = Z at pm hf3 hr3 hl3 ⊢
    obtain ⟨es2, t3, gave⟩ := Z
    dsimp only at pm hf3 hr3 hl3 ⊢
    have hsz : es2.size = es1.size := by rw [← Array.length_toList, pm.length_eq, Array.length_toList]
    have hb2 : es2.size < scanBound := by rw [hsz]; exact hb1
    refine wpAny_bind (hg _ _ _ ?_)
    refine wpAny_bind (wpAny_storeSet_of ho1 rfl ?_ (fits_of_scanBound hb2))
    have ho2 := store_at (es' := es2) (t' := t3) ho1 rfl
    refine wpAny_pure (hR _ (sb1.trans (Heap.SameBut.update _ a _)) ?_)
    exact ⟨_, es2, _, t3, ho2, hex, rfl, fun e he => g1 e (pm.mem_iff.mp he), (pm.map tkey).trans p1, nd1, hb2, hf3, hr3, hl.imp id fun z => by rw [hl3]; exact z⟩
  · exact wpAny_pure (hR _ sb1 ⟨_, es1, _, t2, ho1, hex, rfl, g1, p1, nd1, hb1, hf2, hr, hl⟩)
theorem tst_add {k : Str} {tk : Tok} {Q : Bool → Shared → Prop} (R : TSt w s.heap a ks) (room : ks.length + 1 < scanBound)
    (hQ : ∀ h' b, Heap.SameBut a s.heap h' → TSt w h' a (if k ∈ ks then ks else k :: ks) → Q b { s with heap := h' }) :
    wpAny (model P w) A (setAddHashed a (.str k tk) ((PySem.strKind P w).hash k)) Q E s := by
  obtain ⟨o, es, ep, t, ho, hex, hd, g, p, nd, hb, hf, hr, hl⟩ := R
  have hkey : (PySem.strKind P w).is k (.str k tk) = true := strKind_is P w k tk
  have hsc : (Value.str k tk).scannable = true := rfl
  have hel : ElemsOf (PySem.strKind P w) es.toList := tel g
  unfold setAddHashed setAddHashedIn
  refine wpAny_holding (wpAny_bind (wpAny_setState_of ho hd hf ?_))
  dsimp only
  rw [byScan_of hsc hb hel]
  simp only [↓reduceIte]
  unfold setAddByScan
  refine wpAny_bind ?_
  refine wpAny_bind (wpAny_rule ?_)
  refine wpAny_bind (wpAny_setScan_of hkey ho hd hf hel ?_)
  cases hfi : List.findIdx? (fun e => (PySem.strKind P w).is k e.2) es.toList with
  | some j =>
    dsimp only
    obtain ⟨hj, pj, _⟩ := List.findIdx?_eq_some_iff_getElem.mp hfi
    have hk : k ∈ ks := p.mem_iff.mp (List.mem_map.mpr ⟨es.toList[j], List.getElem_mem hj, (tis (g _ (List.getElem_mem hj)) k).mp pj⟩)
    refine wpAny_pure (wpAny_pure ?_)
    have q := hQ s.heap false (Heap.SameBut.refl a s.heap)
    rw [if_pos hk] at q
    exact q ⟨o, es, ep, t, ho, hex, hd, g, p, nd, hb, hf, hr, hl⟩
  | none =>
    dsimp only
    have hnk : k ∉ ks := fun z => by
      obtain ⟨e, he, q⟩ := List.mem_map.mp (p.mem_iff.mpr z)
      have c := List.findIdx?_eq_none_iff.mp hfi e he
      rw [(tis (g e he) k).mpr q] at c
      cases c
    have hgw : ∀ (b : Bool) {s1 : Shared} {Q' : Unit → Shared → Prop}, Q' () s1 → wpAny (model P w) A (match b with | true => rule "set.scan.the-table-gave-way" | false => pure ()) Q' E s1 :=
      fun b s1 Q' q => by cases b <;> first | exact wpAny_pure q | exact wpAny_rule q
    have pm := layNew_perm t es ((PySem.strKind P w).hash k) (.str k tk)
    have hf1 := layNew_fits t es ((PySem.strKind P w).hash k) (.str k tk)
    have hr1 := layNew_ris t es ((PySem.strKind P w).hash k) (.str k tk) hr
    have hl1 := layNew_led t es ((PySem.strKind P w).hash k) (.str k tk)
    generalize layNew t es ((PySem.strKind P w).hash k) (.str k tk) = Z at pm hf1 hr1 hl1 ⊢
    obtain ⟨es1, t1, wasDummy, gave⟩ := Z
    dsimp only at pm hf1 hr1 hl1 ⊢
    rw [Array.toList_push] at pm
    have pc : es1.toList.Perm (((PySem.strKind P w).hash k, Value.str k tk) :: es.toList) := pm.trans (List.perm_append_singleton _ _)
    have pk : (es1.toList.map tkey).Perm (k :: ks) := (pc.map tkey).trans (p.cons k)
    have g1 : ∀ e ∈ es1.toList, ∃ k tk, e.2 = Value.str k tk ∧ e.1 = hashStr w k := fun e he => by
      rcases List.mem_cons.mp (pc.mem_iff.mp he) with z | z
      · rw [z]; exact ⟨k, tk, rfl, rfl⟩
      · exact g e z
    have hsz : es1.size = ks.length + 1 := by
      have z := pk.length_eq
      rw [List.length_map, Array.length_toList, List.length_cons] at z
      exact z
    have hb1 : es1.size < scanBound := by rw [hsz]; exact room
    have nd1 : (k :: ks).Nodup := List.nodup_cons.mpr ⟨hnk, nd⟩
    have hled : w.params.followText "set-order" = true ∨ t1.led = true := hl.imp id fun z => by rw [hl1]; exact z
    have fin : ∀ h', Heap.SameBut a s.heap h' → TSt w h' a (k :: ks) → Q true { s with heap := h' } := fun h' sb r => by
      have q := hQ h' true sb
      rw [if_neg hnk] at q
      exact q r
    refine wpAny_bind (hgw _ ?_)
    split
    · refine wpAny_bind ?_
      rw [hashByValue_scannable 8 hsc]
      refine wpAny_pure ?_
      refine tst_tail ?_ ho hex hd g1 pk nd1 hb1 ?_ ?_ ?_ ?_
      · intro b s1 Q' q; cases b <;> first | exact wpAny_pure q | exact wpAny_rule q
      · first | (split <;> first | exact hf1 | exact SetTable.fits_plain_off hf1) | exact hf1
      · first | (split <;> exact hr1) | exact hr1
      · first | (split <;> exact hled) | exact hled
      · intro h' sb r; dsimp only; exact wpAny_pure (fin h' sb r)
    · refine wpAny_bind (wpAny_pure ?_)
      simp only [↓reduceIte]
      refine tst_tail ?_ ho hex hd g1 pk nd1 hb1 hf1 hr1 hled ?_
      · intro b s1 Q' q; cases b <;> first | exact wpAny_pure q | exact wpAny_rule q
      · intro h' sb r; dsimp only; exact wpAny_pure (fin h' sb r)
theorem tst_fresh {h : Heap} (ho : h.get? a = some { cls := .type "set", dict := none, data := .set #[] 0 (.fresh 0 0 (!w.params.followText "set-order")) }) : TSt w h a [] :=
  ⟨_, #[], 0, _, ho, ⟨rfl, rfl, rfl⟩, rfl, (fun e he => by simp at he), (by simp), List.nodup_nil, (by decide), (by rfl), List.Pairwise.nil, by
    show _ ∨ (!w.params.followText "set-order") = true
    cases w.params.followText "set-order"
    · exact .inr rfl
    · exact .inl rfl⟩
end
def seenT : List Str → List Str → List Str
  | ks, [] => ks
  | ks, x :: xs => seenT (if x ∈ ks then ks else x :: ks) xs
theorem seenT_len : ∀ (xs ks : List Str), (seenT ks xs).length ≤ ks.length + xs.length
  | [], _ => by simp [seenT]
  | x :: xs, ks => by
    have := seenT_len xs (if x ∈ ks then ks else x :: ks)
    have e : (if x ∈ ks then ks else x :: ks).length ≤ ks.length + 1 := by split <;> simp
    show (seenT (if x ∈ ks then ks else x :: ks) xs).length ≤ _
    rw [List.length_cons]
    omega
theorem seenT_snoc : ∀ (xs ks : List Str) (x : Str), seenT ks (xs ++ [x]) = if x ∈ seenT ks xs then seenT ks xs else x :: seenT ks xs
  | [], _, _ => rfl
  | y :: xs, ks, x => seenT_snoc xs _ x
section
variable {prog : Program} {w : World} {A : Around} {R : Result → Shared → Prop} {I : Addr} {fp wr : List Addr} {G : Array GenState → Array GenState → Prop} {n : Nat} {P : Nat → Value → Prop} {St : Nat → Shared → Prop}
theorem tst_loop (W : WalksS prog w A.in1 I fp wr G n P St) (S : Addr) (hSf : S ∉ fp) (xs : List Str) (hsz : xs.length = n) (hn1 : n < 1000)
    (hval : ∀ i v, P i v → ∃ x t, xs[i]? = some x ∧ v = .str x t) :
    ∀ (k i : Nat) (s : Shared), n - i = k → i ≤ n → St i s → TSt w s.heap S (seenT [] (xs.take i)) →
      (∀ s', Moved (S :: wr) G s s' → TSt w s'.heap S (seenT [] xs) → R (.ok (.ret .none)) s') →
      codeAny (model prog w) A (.builtin "set.update.loop" ⟨[.ref S, .ref I], []⟩) R s := by
  have hSw : S ∉ wr := fun h => hSf (W.sub _ h)
  have hsub : ∀ b ∈ wr, b ∈ S :: wr := fun b hb => List.mem_cons_of_mem _ hb
  intro k
  induction k with
  | zero =>
    intro i s hk hi hst hS hR
    have hin : i = n := by omega
    subst hin
    refine codeAny_builtin PyProof.Rows.F.entry_set_update_loop ?_
    rw [Around.under_plainId PyProof.Rows.F.plain_set_update_loop _]
    show wpAny _ A.in1 (pyNext (.ref I) >>= _) _ _ s
    refine wpAny_bind (W.done s _ _ hst fun s' hm => ?_)
    show wpAny _ A.in1 (ret Value.none) _ _ s'
    rw [← hsz, List.take_length] at hS
    exact wpAny_pure (hR s' (hm.mono hsub) (hS.keep fun o e => hm.heap S o hSw e))
  | succ k ih =>
    intro i s hk hi hst hS hR
    have hlt : i < n := by omega
    refine codeAny_builtin PyProof.Rows.F.entry_set_update_loop ?_
    rw [Around.under_plainId PyProof.Rows.F.plain_set_update_loop _]
    show wpAny _ A.in1 (pyNext (.ref I) >>= _) _ _ s
    refine wpAny_bind (W.item i s _ _ hlt hst fun v s' hP hst' hm => ?_)
    obtain ⟨x, t, hx, rfl⟩ := hval i v hP
    have hS' : TSt w s'.heap S (seenT [] (xs.take i)) := hS.keep fun o e => hm.heap S o hSw e
    show wpAny _ A.in1 (holding [Value.str x t] (setAdd S (.str x t)) >>= _) _ _ s'
    refine wpAny_bind (wpAny_holding ?_)
    unfold setAdd
    refine wpAny_holding ?_
    refine wpAny_bind ((PySem.strKind prog w).pyHash (k := x) (strKind_is _ _ _ _) ?_)
    refine tst_add (s := { s' with toks := s'.toks + 1 }) hS' (by
      have a := seenT_len (xs.take i) []
      have b : (xs.take i).length ≤ i := by rw [List.length_take]; omega
      have c : ([] : List Str).length = 0 := rfl
      unfold scanBound
      omega) fun h' b hsb hS2 => ?_
    have e : xs.take (i + 1) = xs.take i ++ [x] := by
      rw [List.take_succ, hx]; rfl
    rw [← seenT_snoc, ← e] at hS2
    refine wpAny_pure ⟨plainId_quiet PyProof.Rows.F.plain_set_update_loop _, ih (i + 1) _ (by omega) hlt (W.frame _ s' _ _ hst' (Nat.le_succ _) fun b hb o e => ?_) hS2 fun s'' hm'' hS'' => ?_⟩
    · rw [hsb.2 b (fun h : b = S => hSf (by rw [← h]; exact hb))]; exact e
    · refine hR s'' (Moved.trans W.gtrans ((hm.mono hsub).then_heap (Nat.le_succ _) fun b o hb e => ?_) hm'') hS''
      rw [hsb.2 b (fun h : b = S => hb (by rw [h]; exact List.mem_cons_self))]; exact e
end
section
variable {P : Program} {w : World} {A : Around} {E : Value → Shared → Prop} {s : Shared}
abbrev newSet (w : World) : Obj := { cls := .type "set", dict := none, data := .set #[] 0 (.fresh 0 0 (!w.params.followText "set-order")) }
theorem call_setT {l : Addr} {items : Array Value} {xs : List Str} {Q : Value → Shared → Prop} (hh : A.handled = none) (hl : s.heap.IsList l items) (hi : StrsAre items.toList xs) (hn1 : xs.length < 1000)
    (h : ∀ (h' : Heap) (tk : Nat), TSt w h' s.heap.objs.size (seenT [] xs) → (∀ b o, s.heap.get? b = some o → h'.get? b = some o) → Q (.ref s.heap.objs.size) { s with heap := h', toks := tk }) :
    wpAny (model P w) A (call (.type "set") [.ref l]) Q E s := by
  obtain ⟨c, tl, hmro⟩ := PySem.F.called_set.mro
  have hmade := PySem.F.called_set.made
  have hsub := PySem.F.called_set.sub
  refine wpAny_call (codeAny_of_tree ?_)
  show wpAny _ _ (callAny (.type "set") _) _ _ _
  refine wpAny_pure ⟨Code.quiet_builtin _ (by decide +kernel), codeAny_builtin PySem.F.entry_type_call ?_⟩
  rw [Around.under_plain (weight_type_call_type "set" [.ref l] []) rfl]
  have h1 := PySem.F.called_set.notType
  have h2 := PySem.F.called_set.canCreate
  have hct := PySem.F.typeCall_set_1 (.ref l)
  repeat (any_goals (first | assumption | wp_step))
  refine codeAny_mono (code_set_led1 (.ref l) (E := E) (Q₁ := fun obj s1 => obj = .ref s.heap.objs.size ∧ s1 = { s with heap := s.heap.push (newSet w) }) ⟨rfl, rfl⟩) fun r s1 hr => ?_
  cases r with
  | error e => exact hr
  | ok fl =>
    cases fl with
    | ret obj =>
      obtain ⟨rfl, rfl⟩ := hr
      have hS : (s.heap.push (newSet w)).get? s.heap.objs.size = some (newSet w) := Heap.get?_push_size _ rfl
      have hT : Shared.TypeIs { s with heap := s.heap.push (newSet w) } (.ref s.heap.objs.size) "set" := ⟨_, hS, rfl⟩
      have hli := PySem.F.called_set.init.lookup
      have hbi := PySem.F.called_set.init.bind (.ref s.heap.objs.size)
      repeat (any_goals (first | assumption | wp_step))
      refine codeAny_mono (codeAny_call_builtin (R := wants (fun r s2 => r = .none ∧ ∃ h' tk, s2 = { s with heap := h', toks := tk } ∧ TSt w h' s.heap.objs.size (seenT [] xs) ∧
          (∀ b o, s.heap.get? b = some o → h'.get? b = some o)) E) PySem.F.called_set.init.plain PySem.F.entry_set_init (check_set_init_1 hT ?_)) fun r2 s2 hr2 => ?_
      · obtain ⟨ol, hol, hcl, nl, hdl⟩ := hl
        obtain ⟨ocls, odict, odata, oslots⟩ := ol
        simp only at hcl hdl
        subst hcl; subst hdl
        have hol' : (s.heap.push (newSet w)).get? l = some { cls := .type "list", dict := odict, data := .seq items nl, slots := oslots } := Heap.get?_push_of_some _ hol
        have hsls := PySem.F.sub_list_set
        have hslf := PySem.F.sub_list_frozenset
        have hne : (Value.type "list" == Value.type "dict") = false := by decide
        have hl1 : (s.heap.push (newSet w)).IsList l items := ⟨_, hol', rfl, nl, rfl⟩
        unfold Builtin.«set.__init__» noKeywords Builtin.Frozenset.updateFrom
        generalize hPI : pyIter = PI
        wp_walk
        subst hPI
        refine wpAny_pyIter_list hl1 ?_
        refine wpAny_bind (wpAny_runValue ?_)
        have hlS : l < s.heap.objs.size := Heap.lt_size hol
        have hh3 : A.in1.in1.in1.handled = none := by simp [hh]
        have hneI : l ≠ (s.heap.push (newSet w)).objs.size := by
          rw [Heap.size_push]; exact Nat.ne_of_lt (Nat.lt_succ_of_lt hlS)
        have hSf : s.heap.objs.size ∉ [(s.heap.push (newSet w)).objs.size, l] := by
          rw [Heap.size_push]; simp only [List.mem_cons, List.mem_singleton, List.not_mem_nil, or_false, not_or]
          exact ⟨Nat.ne_of_lt (Nat.lt_succ_self _), Nat.ne_of_gt hlS⟩
        have hsz : xs.length = items.size := by rw [← StrsAre.len_eq hi, Array.length_toList]
        have hval : ∀ (i : Nat) (v : Value), items[i]? = some v → ∃ x t, xs[i]? = some x ∧ v = .str x t := fun i v hv => by
          have hv' : items.toList[i]? = some v := by rw [Array.getElem?_toList]; exact hv
          obtain ⟨t, e⟩ := SS.strs_at hi i v hv'
          have hi2 : i < xs.length := by
            rw [hsz, ← Array.length_toList]
            exact (List.getElem?_eq_some_iff.mp hv').1
          exact ⟨_, t, by simp [List.getD, hi2], e⟩
        refine tst_loop ((Walks.list hh3 _ l hneI items).toS) s.heap.objs.size
          hSf xs hsz (by rw [← hsz]; exact hn1) hval (items.size - 0) 0 _ (by omega) (Nat.zero_le _)
          ⟨⟨_, Heap.get?_push_size _ rfl, rfl, rfl⟩, (hl1.push _)⟩ ?hS0 ?hR
        case hS0 => exact tst_fresh (Heap.get?_push_of_some _ hS)
        case hR =>
          intro s' hm hS'
          obtain ⟨h', g', d', tk', os'⟩ := s'
          have eg : g' = s.gens := hm.gens
          have ed : d' = s.drawn := hm.drawn
          have eo : os' = s.os := hm.os
          subst eg; subst ed; subst eo
          show wpAny _ _ _ _ _ _
          refine wpAny_pure ?_
          show wpAny _ _ (ret Value.none) _ _ _
          refine wpAny_pure ⟨rfl, h', tk', rfl, hS', fun b o e => ?_⟩
          have hb := Heap.lt_size e
          have hb1 : b ≠ s.heap.objs.size := Nat.ne_of_lt hb
          have hb2 : b ≠ (s.heap.push (newSet w)).objs.size := by
            rw [Heap.size_push]; exact Nat.ne_of_lt (Nat.lt_succ_of_lt hb)
          exact hm.heap b o (by simp only [List.mem_cons, List.mem_singleton, List.not_mem_nil, or_false, not_or]; exact ⟨hb1, hb2⟩) (Heap.get?_push_of_some _ (Heap.get?_push_of_some _ e))
      · cases r2 with
        | error e => exact hr2
        | ok fl2 =>
          cases fl2 with
          | ret r =>
            obtain ⟨rfl, h', tk, rfl, hS', hk'⟩ := hr2
            repeat (any_goals (first | assumption | wp_step))
            exact h _ _ hS' hk'
          | _ => exact hr2.elim
    | _ => exact hr.elim
def vkey : Value → Str
  | .str k _ => k
  | _ => Str.empty
theorem strs_vals : ∀ (l : List Value), (∀ v ∈ l, ∃ k tk, v = Value.str k tk) → StrsAre l (l.map vkey)
  | [], _ => .nil
  | v :: l, h => by
    obtain ⟨k, tk, rfl⟩ := h v List.mem_cons_self
    exact .cons k tk (strs_vals l fun u hu => h u (List.mem_cons_of_mem _ hu))
theorem sorted_tst {a : Addr} {ks : List Str} {Q : Value → Shared → Prop} (R : TSt w s.heap a ks) (hh : A.handled = none) (h64 : ks.length < 64)
    (hQ : ∀ s' p (out : Array Value) (c : Nat) (ys : List Str), (∀ b o, s.heap.get? b = some o → s'.heap.get? b = some o) → s'.gens = s.gens → s'.os = s.os → s.heap.objs.size ≤ p →
      s'.heap.get? p = some (seqObj "list" out c) → StrsAre out.toList ys → sortedS ys = true → ys.Perm ks → Q (.ref p) s') :
    wpAny (model P w) A (call (.builtin "sorted") [.ref a]) Q E s := by
  obtain ⟨o, es, ep, t, ho, hex, hd, g, pk, nd, hb, hf, hr, hl⟩ := R
  refine Calls.call_function_entry kind_sorted plain_sorted entry_sorted (args_sorted1 _) ?_
  unfold Builtin.«sorted»
  refine wpAny_bind (m := checkCount "sorted" 1 1 _) (wpAny_pure ?_)
  refine wpAny_bind (collect_set (A := A.in1) hh ⟨o, ho, hex.1, hd⟩ hf hb hr hl fun s1 vs k1 hz g1 o1 pm => ?_)
  have hel : es.toList.length = ks.length := by
    have z := pk.length_eq
    rw [List.length_map] at z
    exact z
  have hvl : vs.length = ks.length := by rw [pm.length_eq, List.length_map]; exact hel
  have hI : StrsAre vs (vs.map vkey) := strs_vals vs fun v hv => by
    obtain ⟨e, he, q⟩ := List.mem_map.mp (pm.mem_iff.mp hv)
    obtain ⟨k, tk, h1, _⟩ := g e he
    exact ⟨k, tk, by rw [← q]; exact h1⟩
  have pks : (vs.map vkey).Perm ks := by
    have q := pm.map vkey
    rw [List.map_map] at q
    exact q.trans pk
  refine wpAny_bind (wpAny_newList ?_ (by rw [hvl, sizeLine_eq]; omega))
  have hoL : (s1.heap.push (seqObj "list" vs.toArray 0)).get? s1.heap.objs.size = some (seqObj "list" vs.toArray 0) := Heap.get?_push_size _ rfl
  refine wpAny_bind (wpAny_holding (wpAny_call_entry slot_list_sort ⟨_, hoL, rfl⟩ entry_list_sort
    (list_sort_treeK strKind_oneLt hoL hI.keysOf (fun v1 v2 rest e => keyKind_strs (by rw [← e]; exact hI)) (by rw [hvl]; exact h64) fun st' hp hs => ?_) (args_list_sort _)))
  obtain ⟨ys, g3, g4, g5⟩ := sorted_out_str hI hp hs
  obtain ⟨c, hc⟩ := sortedHeap_at (vs := vs) (out := (arrOf st').map (·.2)) hoL
  refine ⟨_, rfl, wpAny_pure ⟨_, rfl, hQ _ s1.heap.objs.size ((arrOf st').map (·.2)) c ys (fun b u e => ?_) g1 o1 hz hc g3 g5 (g4.trans pks)⟩⟩
  have q := k1 b u e
  have hlt := Heap.lt_size q
  show (sortedHeap (s1.heap.push (seqObj "list" vs.toArray 0)) s1.heap.objs.size vs _).get? b = some u
  rw [sortedHeap_old (Nat.ne_of_lt hlt) (by rw [Heap.size_push]; exact Nat.lt_succ_of_lt hlt)]
  exact Heap.get?_push_of_some _ q
end
end PL
end
section
namespace PL
open PySem PySem.Spec PyProof.Rows L2
def insT (x : Str) : List Str → List Str
  | [] => [x]
  | y :: ys => if strLt y x then y :: insT x ys else x :: y :: ys
def srtT : List Str → List Str
  | [] => []
  | x :: xs => insT x (srtT xs)
theorem insT_perm (x : Str) : ∀ ys, (insT x ys).Perm (x :: ys)
  | [] => .refl _
  | y :: ys => by
    unfold insT
    split
    · exact ((insT_perm x ys).cons y).trans (List.Perm.swap ..)
    · exact .refl _
theorem srtT_perm : ∀ xs, (srtT xs).Perm xs
  | [] => .refl _
  | x :: xs => (insT_perm x _).trans ((srtT_perm xs).cons x)
theorem strLt_irrefl (a : Str) : strLt a a = false := by
  simp [strLt]
theorem strLt_trans {a b c : Str} (h1 : strLt a b = true) (h2 : strLt b c = true) : strLt a c = true := by
  simp only [strLt, decide_eq_true_eq] at h1 h2 ⊢
  exact List.lt_trans h1 h2
theorem strLt_tri {a b : Str} (h1 : strLt a b = false) (h2 : strLt b a = false) : a = b := by
  simp only [strLt, decide_eq_false_iff_not] at h1 h2
  have e : a.cps.toList = b.cps.toList := List.le_antisymm (List.not_lt.mp h2) (List.not_lt.mp h1)
  cases a
  cases b
  congr 1
  exact Array.toList_inj.mp e
theorem ltS_eq (a b : Str) : ltCps a.cps.toList b.cps.toList = strLt a b := PyProof.Rows.ltCps_eq _ _
def Srt (ys : List Str) : Prop := ys.Pairwise fun a b => strLt b a = false
theorem rising_srt : ∀ (ys : List Str) (p : Str), risingS p ys = true → (p :: ys).Pairwise fun a b => strLt b a = false
  | [], p, _ => by simp
  | x :: r, p, h => by
    have h2 : (!ltCps x.cps.toList p.cps.toList && risingS x r) = true := h
    rw [Bool.and_eq_true] at h2
    have h3 : strLt x p = false := by
      have := h2.1
      rw [ltS_eq] at this
      simpa using this
    have ih := rising_srt r x h2.2
    refine List.pairwise_cons.mpr ⟨fun y hy => ?_, ih⟩
    rcases List.mem_cons.mp hy with rfl | hy
    · exact h3
    · have h4 := (List.pairwise_cons.mp ih).1 y hy
      cases e : strLt y p with
      | false => rfl
      | true =>
        cases e2 : strLt p x with
        | true => rw [strLt_trans e e2] at h4; cases h4
        | false =>
          have := strLt_tri e2 h3
          rw [this] at e
          rw [e] at h4
          cases h4
theorem srt_of {ys : List Str} (h : sortedS ys = true) : Srt ys := by
  cases ys with
  | nil => exact List.Pairwise.nil
  | cons x r => exact rising_srt r x h
theorem insT_srt (x : Str) : ∀ ys, Srt ys → Srt (insT x ys)
  | [], _ => by simp [insT, Srt]
  | y :: ys, h => by
    obtain ⟨h1, h2⟩ := List.pairwise_cons.mp h
    unfold insT
    split
    · rename_i hl
      refine List.pairwise_cons.mpr ⟨fun z hz => ?_, insT_srt x ys h2⟩
      rcases List.mem_cons.mp ((insT_perm x ys).mem_iff.mp hz) with rfl | hz
      · cases e : strLt z y with
        | false => rfl
        | true => have := strLt_trans e hl; rw [strLt_irrefl] at this; cases this
      · exact h1 z hz
    · rename_i hl
      have hl' : strLt y x = false := by simpa using hl
      refine List.pairwise_cons.mpr ⟨fun z hz => ?_, h⟩
      rcases List.mem_cons.mp hz with rfl | hz
      · exact hl'
      · have h4 := h1 z hz
        cases e : strLt z x with
        | false => rfl
        | true =>
          cases e2 : strLt x y with
          | true => rw [strLt_trans e e2] at h4; cases h4
          | false =>
            have := strLt_tri e2 hl'
            rw [this] at e
            rw [e] at h4
            cases h4
theorem srtT_srt : ∀ xs, Srt (srtT xs)
  | [] => List.Pairwise.nil
  | x :: xs => insT_srt x _ (srtT_srt xs)
theorem srt_uniq : ∀ {xs ys : List Str}, xs.Perm ys → Srt xs → Srt ys → xs = ys
  | [], ys, p, _, _ => (List.nil_perm.mp p).symm ▸ rfl
  | x :: xs, [], p, _, _ => absurd p.length_eq (by simp)
  | x :: xs, y :: ys, p, hx, hy => by
    obtain ⟨a1, a2⟩ := List.pairwise_cons.mp hx
    obtain ⟨b1, b2⟩ := List.pairwise_cons.mp hy
    have e : x = y := by
      have m1 : x ∈ y :: ys := p.mem_iff.mp List.mem_cons_self
      have m2 : y ∈ x :: xs := p.mem_iff.mpr List.mem_cons_self
      rcases List.mem_cons.mp m1 with h | h
      · exact h
      · rcases List.mem_cons.mp m2 with h' | h'
        · exact h'.symm
        · exact strLt_tri (b1 x h) (a1 y h')
    subst e
    rw [srt_uniq ((List.perm_cons x).mp p) a2 b2]
theorem sorted_is {xs ys : List Str} (p : ys.Perm xs) (h : sortedS ys = true) : ys = srtT xs := srt_uniq (p.trans (srtT_perm xs).symm) (srt_of h) (srtT_srt xs)
def strsOf : List D → Option (List Str)
  | [] => some []
  | .str b :: ds => (strsOf ds).map (b :: ·)
  | _ => none
theorem strsOf_ok {K : PySem.W.Frag} {G : Hp} : ∀ {v : List V} {d : List D} {bs : List Str}, strsOf d = some bs → RpA K G v d → v = bs.map V.str
  | _, [], bs, h, .nil => by cases h; rfl
  | _, d :: ds, bs, h, .cons h1 r => by
    cases d with
    | str b =>
      have h2 : (strsOf ds).map (b :: ·) = some bs := h
      cases e : strsOf ds with
      | none => rw [e] at h2; cases h2
      | some cs =>
        rw [e] at h2
        cases h2
        cases h1
        rw [strsOf_ok e r]
        rfl
    | _ => cases h
theorem rpa_strs {K : PySem.W.Frag} {G : Hp} : ∀ (bs : List Str), RpA K G (bs.map V.str) (bs.map D.str)
  | [] => .nil
  | b :: bs => .cons (.str b) (rpa_strs bs)
def sortTD (r : Rho) : List D → R (List D)
  | [d] => match viewL r d with
    | some ds => (match strsOf ds with
      | some xs => if decide (xs.length < 64) then .ok ((srtT xs).map .str) else .stuck
      | none => .stuck)
    | none => .stuck
  | _ => .stuck
theorem cn_sortT {K : PySem.W.Frag} : CallN K (rSortedS K) sortTD := by
  intro mg E T s H xs ds Q R rs h
  cases rs with
  | nil => exact h.elim
  | @cons v vs d ds rv rr =>
    cases rr with
    | cons _ _ => exact h.elim
    | nil =>
      simp only [sortTD] at h
      cases e : viewL T.r d with
      | none => rw [e] at h; exact h.elim
      | some es =>
        rw [e] at h
        simp only at h
        cases e2 : strsOf es with
        | none => rw [e2] at h; exact h.elim
        | some zs =>
          rw [e2] at h
          simp only at h
          cases e3 : decide (zs.length < 64) with
          | false => rw [e3] at h; exact h.elim
          | true =>
            rw [e3] at h
            obtain ⟨a, ys, rfl, hq, hr⟩ := viewL_ok R rv e
            have ez := strsOf_ok e2 hr
            subst ez
            refine ⟨a, zs, rfl, SqL.of hq, of_decide_eq_true e3, fun ys p hp hs hn => ?_⟩
            rw [sorted_is hp hs]
            exact KE.lay (show KE K mg E T s H _ (.ok ((srtT zs).map D.str)) from h) R hn p _ hn upd_same (R.gf _ hn) (rpa_strs _)
def tSortSet (K : PySem.W.Frag) (ta : TE) : TE := fun s H Q => ta s H fun x H1 => ∃ (l : Addr) (xs : List Str), x = .ref l ∧ SqL K H1 l (xs.map V.str) ∧ xs.length < 64 ∧ ∀ p, H1 p = none → Q (.ref p) (upd H1 p (.lst ((srtT (seenT [] xs)).map V.str)))
theorem pe_sortSet {X : Cx} {a : Expr} {ta : TE} {p p2 q pos : Pos} (hc : X.calm = true) (hg : Gl X "sorted") (hm : X.mg "sorted" = none) (hg2 : Gl X "set") (hm2 : X.mg "set" = none) (ha : PE X a ta)
    (na : starEach [a] X.env = (false, eval a X.env) :: starEach [] X.env := by rfl) : PE X (.Call (.Name "sorted" p) [.Call (.Name "set" p2) [a] [] q] [] pos) (tSortSet X.K ta) := by
  refine ⟨fun pins s σ H Q I h => ?_⟩
  refine Call_ (ld_blt I hg hm boot_sorted ?_)
  refine PyProof.Rows.callWith_builtin1 (PyProof.Rows.args_cons ?_ rfl) rfl rfl
  refine Call_ (ld_blt I hg2 hm2 boot_set ?_)
  refine PyProof.Rows.callWith_type1 (PyProof.Rows.args_cons (thn (ha.run pins s σ H _ I h) fun v s1 ⟨x, H1, I1, r1, q1⟩ => PyProof.Rows.args_nil ?_) na) na rfl
  obtain ⟨l, xs, rfl, hq, h64, q1⟩ := q1
  cases r1
  obtain ⟨its, r, pl, hz⟩ := I1.list hq
  refine call_setT (I1.ok.hd hc) pl.isList (by simpa using strsAre_of r) (by omega) fun h' tk hS hk => ?_
  refine PyProof.Rows.args_nil ?_
  have I2 : L2.Inv X pins σ H1 { s1 with heap := h', toks := tk } := I1.kept (t' := tk) hk
  have hl := seenT_len xs []
  have c0 : ([] : List Str).length = 0 := rfl
  have hS2 : TSt X.w ({ s1 with heap := h', toks := tk } : Shared).heap s1.heap.objs.size (seenT [] xs) := hS
  generalize ({ s1 with heap := h', toks := tk } : Shared) = s2 at I2 hS2 ⊢
  refine sorted_tst hS2 (I2.ok.hd hc) (by omega) fun s' p out c ys k g o hp hg hi hs pm => ?_
  have e := sorted_is pm hs
  subst e
  have hlen : ((srtT (seenT [] xs)).map V.str).length ≤ sizeLine := by rw [List.length_map, pm.length_eq, sizeLine_eq]; omega
  have hn : H1 p = none := I2.hok.fresh hp
  have J : L2.Inv X pins σ (upd H1 p (.lst ((srtT (seenT [] xs)).map V.str))) { s2 with heap := s'.heap, gens := s'.gens, drawn := s'.drawn, toks := s'.toks } :=
    I2.call (ch := []) (Un.laid k hp hn) (I2.hok.laid k hp ⟨hlen, out.toList, c, vals_of_strs hi, hg⟩) (by rw [g]; exact I2.bare) (fun _ z => nomatch z)
  have e : s' = { s2 with heap := s'.heap, gens := s'.gens, drawn := s'.drawn, toks := s'.toks } := by
    cases s'
    cases s2
    cases o
    rfl
  rw [e]
  exact ⟨.ref p, _, J, rfl, q1 p hn⟩
def fSortSet (fa : Rho → R D) (r : Rho) : R (List D) := (fa r).bnd fun d => match viewL r d with
  | some ds => (match strsOf ds with
    | some xs => if decide (xs.length < 64) then .ok ((srtT (seenT [] xs)).map .str) else .stuck
    | none => .stuck)
  | none => .stuck
theorem en_sortSet {X : Cx} {E : WX} {a : Expr} {fa : Rho → R D} {p p2 q pos : Pos} (hc : X.calm = true) (hg : Gl X "sorted") (hm : X.mg "sorted" = none) (hg2 : Gl X "set") (hm2 : X.mg "set" = none) (ha : EV X E a fa)
    (na : starEach [a] X.env = (false, eval a X.env) :: starEach [] X.env := by rfl) : EN X E (.Call (.Name "sorted" p) [.Call (.Name "set" p2) [a] [] q] [] pos) (fSortSet fa) :=
  pe_imp (pe_sortSet hc hg hm hg2 hm2 ha na) fun s H Q ⟨T, R, h⟩ => ⟨T, R, KE.bnd h fun d G1 H1 _ eg eh R1 h1 v rv => by
    cases e : viewL T.r d with
    | none => rw [e] at h1; exact h1.elim
    | some es =>
      rw [e] at h1
      simp only at h1
      cases e2 : strsOf es with
      | none => rw [e2] at h1; exact h1.elim
      | some zs =>
        rw [e2] at h1
        simp only at h1
        cases e3 : decide (zs.length < 64) with
        | false => rw [e3] at h1; exact h1.elim
        | true =>
          rw [e3] at h1
          obtain ⟨l, ys, rfl, hq, hr⟩ := viewL_ok (T := { T with G := G1 }) R1 rv e
          have ez := strsOf_ok e2 hr
          subst ez
          refine ⟨l, zs, rfl, SqL.of hq, of_decide_eq_true e3, fun p hp => ?_⟩
          exact KE.lay (show KE X.K X.mg E { T with G := G1 } s H1 _ (.ok ((srtT (seenT [] zs)).map D.str)) from h1) R1 hp p _ (eh.free hp) upd_same (R1.gf _ hp) (rpa_strs _)⟩
end PL
end
section
namespace PL
open PySem PySem.Spec PyProof.Rows L2
def keyD : D → Option Key
  | .int i => some (.inl i)
  | .str x => some (.inr x)
  | _ => none
theorem keyD_ok {K : PySem.W.Frag} {G : Hp} {s : St} {v : V} {d : D} {k : Key} (rv : RpE K G s v d) (h : keyD d = some k) : v = kV k := by
  cases d with
  | int i =>
    cases h
    cases (show Rp K G v (.int i) from rv)
    rfl
  | str x =>
    cases h
    cases (show Rp K G v (.str x) from rv)
    rfl
  | _ => cases h
def valD (ks : List (Key × D)) (k : Key) : Option D := (ks.find? fun kv => decide (kv.1 = k)).map (·.2)
def putD (ks : List (Key × D)) (k : Key) (d : D) : List (Key × D) := if (ks.any fun kv => decide (kv.1 = k)) then ks.map fun kv => if kv.1 = k then (kv.1, d) else kv else ks ++ [(k, d)]
def keyOfD : Key → D
  | .inl i => .int i
  | .inr x => .str x
theorem RpK.len {K : PySem.W.Frag} {G : Hp} : ∀ {v : List (Key × V)} {d : List (Key × D)}, RpK K G v d → v.length = d.length
  | _, _, .nil => rfl
  | _, _, .cons _ r => by rw [List.length_cons, List.length_cons, r.len]
theorem RpK.val {K : PySem.W.Frag} {G : Hp} {k : Key} : ∀ {v : List (Key × V)} {d : List (Key × D)}, RpK K G v d → (valD d k = none ∧ valV v k = none) ∨ ∃ x y, valD d k = some x ∧ valV v k = some y ∧ Rp K G y x
  | _, _, .nil => .inl ⟨rfl, rfl⟩
  | _, _, .cons (k := k0) (v := y) (d := x) h r => by
    by_cases e : k0 = k
    · exact .inr ⟨x, y, by simp [valD, e], by simp [valV, e], h⟩
    · have ih := r.val (k := k)
      simp only [valD, valV, List.find?_cons, e, decide_false] at ih ⊢
      exact ih
theorem RpK.any {K : PySem.W.Frag} {G : Hp} {k : Key} : ∀ {v : List (Key × V)} {d : List (Key × D)}, RpK K G v d → (v.any fun kv => decide (kv.1 = k)) = d.any fun kv => decide (kv.1 = k)
  | _, _, .nil => rfl
  | _, _, .cons h r => by rw [List.any_cons, List.any_cons, r.any]
theorem RpK.repl {K : PySem.W.Frag} {G : Hp} {k : Key} {y : V} {x : D} (hx : Rp K G y x) : ∀ {v : List (Key × V)} {d : List (Key × D)}, RpK K G v d → RpK K G (v.map fun kv => if kv.1 = k then (kv.1, y) else kv) (d.map fun kv => if kv.1 = k then (kv.1, x) else kv)
  | _, _, .nil => .nil
  | _, _, .cons (k := k0) h r => by
    by_cases e : k0 = k
    · simp only [List.map_cons, e, if_true]
      exact .cons hx (r.repl hx)
    · simp only [List.map_cons, e, if_false]
      exact .cons h (r.repl hx)
theorem RpK.snoc {K : PySem.W.Frag} {G : Hp} {k : Key} {y : V} {x : D} (hx : Rp K G y x) : ∀ {v : List (Key × V)} {d : List (Key × D)}, RpK K G v d → RpK K G (v ++ [(k, y)]) (d ++ [(k, x)])
  | _, _, .nil => .cons hx .nil
  | _, _, .cons h r => .cons h (r.snoc hx)
theorem RpK.put {K : PySem.W.Frag} {G : Hp} {k : Key} {y : V} {x : D} (hx : Rp K G y x) {v : List (Key × V)} {d : List (Key × D)} (r : RpK K G v d) : RpK K G (putK v k y) (putD d k x) := by
  unfold putK putD
  rw [r.any]
  split
  · exact r.repl hx
  · exact r.snoc hx
theorem RpK.keys {K : PySem.W.Frag} {G : Hp} : ∀ {v : List (Key × V)} {d : List (Key × D)}, RpK K G v d → RpA K G (v.map fun kv => kV kv.1) (d.map fun kv => keyOfD kv.1)
  | _, _, .nil => .nil
  | _, _, .cons (k := k0) h r => .cons (by cases k0 with
    | inl i => exact .int i
    | inr x => exact .str x) r.keys
theorem Rel.setOd {K : PySem.W.Frag} {G0 H0 G H : Hp} {r : Rho} {s : St} {i : Nat} {p : Addr} {kvs : List (Key × V)} {ks : List (Key × D)} (R : Rel K G0 H0 r s G H) (hp : H p = some (.dK kvs)) (hg : G p = none) (h0 : H0 p = none) (hn : ∀ j, j ≠ i → ¬ OwnAt r s j p) (hr : RpK K G kvs ks) (hs : i < s.length) : Rel K G0 H0 (r.set i (.od ks)) (s.set i (some (.ref p))) G H where
  gg := R.gg
  hh := R.hh
  gh := R.gh
  gf := R.gf
  nw := R.nw
  sl := fun j x hx => by
    have hi : i < r.length := Nat.lt_of_lt_of_le hs R.ln.lo
    rw [join_set hs]
    by_cases e : j = i
    · subst e
      rw [List.getElem?_set_self hi] at hx
      cases hx
      rw [if_pos rfl]
      exact ⟨p, kvs, rfl, hp, hg, h0, hr⟩
    · rw [List.getElem?_set_ne (Ne.symm e)] at hx
      rw [if_neg e]
      exact R.sl j x hx
  ds := fun j k a h1 h2 => by
    have key : ∀ j, j ≠ i → OwnAt (r.set i (.od ks)) (s.set i (some (.ref p))) j a → OwnAt r s j a := fun j e h => by
      obtain ⟨q1, q2⟩ := h
      rw [List.getElem?_set_ne (Ne.symm e)] at q1 q2
      exact ⟨q1, q2⟩
    have at_i : ∀ j, j = i → OwnAt (r.set i (.od ks)) (s.set i (some (.ref p))) j a → a = p := fun j e h => by
      obtain ⟨q1, q2⟩ := h
      subst e
      rw [List.getElem?_set_self hs] at q2
      cases q2
      rfl
    by_cases e1 : j = i
    · by_cases e2 : k = i
      · rw [e1, e2]
      · have ea := at_i j e1 h1
        subst ea
        exact absurd (key k e2 h2) (hn k e2)
    · by_cases e2 : k = i
      · have ea := at_i k e2 h2
        subst ea
        exact absurd (key j e1 h1) (hn j e1)
      · exact R.ds j k a (key j e1 h1) (key k e2 h2)
  ln := R.ln.set hs _ _
theorem Rel.setOwnD {K : PySem.W.Frag} {G0 H0 G H : Hp} {r : Rho} {s : St} {i : Nat} {a : Addr} {kvs : List (Key × V)} {ks : List (Key × D)} (R : Rel K G0 H0 r s G H) (o : OwnAt r s i a) (hr : RpK K G kvs ks) : Rel K G0 H0 (r.set i (.od ks)) s G (upd H a (.dK kvs)) := by
  obtain ⟨⟨u, hu⟩, hg, h0⟩ := own_in R o
  have hsl : i < s.length := (List.getElem?_eq_some_iff.mp o.2).1
  have hi : i < r.length := Nat.lt_of_lt_of_le hsl R.ln.lo
  have ow : ∀ j b, OwnAt (r.set i (.od ks)) s j b → OwnAt r s j b := fun j b h => by
    by_cases e : j = i
    · subst e
      have e1 := h.2
      have e2 := o.2
      rw [e1] at e2
      cases e2
      exact o
    · have h1 := h.1
      rw [List.getElem?_set_ne (Ne.symm e)] at h1
      exact ⟨h1, h.2⟩
  refine ⟨R.gg, ex_into R.hh h0, ex_into R.gh (um_none hg), fun b q => R.gf_upd q, R.nw, fun j x hx => ?_, fun j k b h1 h2 => R.ds j k b (ow j b h1) (ow k b h2), R.ln.setr hsl _⟩
  by_cases e : j = i
  · subst e
    rw [List.getElem?_set_self hi] at hx
    cases hx
    rw [o.2]
    exact ⟨a, kvs, rfl, upd_same, hg, h0, hr⟩
  · rw [List.getElem?_set_ne (Ne.symm e)] at hx
    have q := R.sl j x hx
    have ne : ∀ b, isOwn (some x) → (s[j]?.join) = some (V.ref b) → b ≠ a := fun b ix eb z => by
      subst z
      refine e (R.ds j i b ⟨by rw [hx]; exact ix, ?_⟩ o)
      cases e6 : s[j]? with
      | none => rw [e6] at eb; cases eb
      | some w => rw [e6] at eb; exact congrArg some eb
    cases x with
    | un => exact q
    | im d => exact q
    | ol es =>
      obtain ⟨b, ys, e1, e2, e3, e4, e5⟩ := q
      exact ⟨b, ys, e1, by rw [upd_ne (ne b trivial e1)]; exact e2, e3, e4, e5⟩
    | od es =>
      obtain ⟨b, ys, e1, e2, e3, e4, e5⟩ := q
      exact ⟨b, ys, e1, by rw [upd_ne (ne b trivial e1)]; exact e2, e3, e4, e5⟩
    | st w os => exact StOk.off hg q
theorem own_atD {K : PySem.W.Frag} {T : Stt} {s : St} {H : Hp} {i : Nat} {ks : List (Key × D)} (R : Rl K T s H) (h : T.r[i]? = some (.od ks)) : ∃ a kvs, OwnAt T.r s i a ∧ s[i]? = some (some (.ref a)) ∧ H a = some (.dK kvs) ∧ RpK K T.G kvs ks := by
  obtain ⟨a, xs, e1, e2, e3, e4, e5⟩ := R.sl i _ h
  have e3 : s[i]? = some (some (.ref a)) := by
    cases e4 : s[i]? with
    | none => rw [e4] at e1; cases e1
    | some o => rw [e4] at e1; exact congrArg some e1
  exact ⟨a, xs, ⟨by rw [h]; trivial, e3⟩, e3, e2, e5⟩
section
variable {X : Cx} {E : WX} {pos p : Pos}
def fDNew (i : Nat) (r : Rho) : R Fl := if decide (i < r.length) then .ok (.nx (r.set i (.od []))) else .stuck
theorem ss_dnew (i : Nat) {x : Str} {pos' : Pos} (hN : X.N.Nodup) (hi : X.N[i]? = some x := by rfl) (hx : Loc X.env.scope x := by first | exact Or.inl rfl | exact Or.inr rfl) (hs : swapsWith (.Dict [] [] p) (some (.Name x pos')) pos.line X.env = pure false := by rfl) (hf : X.fn x = true ∨ X.env.scope.names.lookup x = some .local := by first | exact .inl rfl | exact .inr rfl | assumption) :
    SS X E (.Assign [.Name x pos'] (.Dict [] [] p) pos) (fDNew i) :=
  ps_impL (ps_set hN hi hx pe_dnewK hs hf) fun Z s H sl ⟨T, R, h⟩ => fun q hq => by
    unfold fDNew at h
    cases e : decide (i < T.r.length) with
    | false => rw [e] at h; exact h.elim
    | true =>
      rw [e] at h
      have hn : ∀ j, j ≠ i → ¬ OwnAt T.r s j q := fun j _ o => by
        obtain ⟨⟨u, e⟩, _⟩ := own_in R o
        rw [e] at hq
        cases hq
      exact h _ T.G _ (Same.refl _) ((R.lay hq).setOd upd_same (R.gf _ hq) (R.hh.free hq) hn .nil (n_lt hi sl))
def fDPut (i : Nat) (fk fe : Rho → R D) (r : Rho) : R Fl := (fe r).bnd fun d => (imD d).bnd fun d => match r[i]? with
  | some (.od ks) => (fk r).bnd fun k => (match keyD k with
    | some k => if decide (ks.length < sizeLine) then .ok (.nx (r.set i (.od (putD ks k d)))) else .stuck
    | none => .stuck)
  | _ => .stuck
theorem ss_dput (i : Nat) {x : Str} {p p2 : Pos} {e k : Expr} {fe fk : Rho → R D} (hu : X.A.units + 1 < cLine) (he : EV X E e fe) (hk : EV X E k fk) (hN : X.N[i]? = some x := by rfl) (hv : Vis X.env.scope x := by first | exact Or.inl rfl | exact Or.inr (Or.inl rfl) | exact Or.inr (Or.inr rfl)) (hd : (x == ("__debug__" : Str)) = false := by decide) (hcd : (x == ("__classdict__" : Str)) = false := by decide)
    (hs : swapsWith e (some (.Subscript (.Name x p) k p2)) pos.line X.env = pure false := by rfl) :
    SS X E (.Assign [.Subscript (.Name x p) k p2] e pos) (fDPut i fk fe) :=
  ps_imp (ps_dput hu (pe_var (i := i) hN hv hd hcd) hk he hs) fun Z s H ⟨T, R, h⟩ => ⟨T, R, KS.bnd h fun d G1 H1 _ eg eh R1 h1 v rv => by
    unfold imD at h1
    cases e0 : noOwn d with
    | false => rw [e0] at h1; exact h1.elim
    | true =>
      rw [e0] at h1
      have h2 : KS X.K X.mg E { T with G := G1 } Z (match T.r[i]? with
        | some (.od ks) => (fk T.r).bnd fun k => (match keyD k with
          | some k => if decide (ks.length < sizeLine) then .ok (.nx (T.r.set i (.od (putD ks k d)))) else .stuck
          | none => .stuck)
        | _ => .stuck) := h1
      cases e1 : T.r[i]? with
      | none => rw [e1] at h2; exact h2.elim
      | some y =>
        rw [e1] at h2
        cases y with
        | od ks =>
          obtain ⟨a, kvs, o, ea, eb, er⟩ := own_atD (T := { T with G := G1 }) R1 e1
          refine ⟨.ref a, ea, ?_⟩
          refine ⟨{ T with G := G1 }, R1, KS.bnd h2 fun dk G2 H2 _ eg2 eh2 R2 h3 vk rk => ?_⟩
          cases e2 : keyD dk with
          | none => rw [e2] at h3; exact h3.elim
          | some kk =>
            rw [e2] at h3
            have h4 : KS X.K X.mg E { T with G := G2 } Z (if decide (ks.length < sizeLine) then .ok (.nx (T.r.set i (.od (putD ks kk d)))) else .stuck) := h3
            cases e3 : decide (ks.length < sizeLine) with
            | false => rw [e3] at h4; exact h4.elim
            | true =>
              rw [e3] at h4
              have ev := keyD_ok rk e2
              subst ev
              refine ⟨a, _, rfl, DPut.k (eh2 _ _ eb) (by rw [er.len]; exact of_decide_eq_true e3), ?_⟩
              exact h4 s G2 _ (Same.refl _) (R2.setOwnD o ((er.mono eg2).put ((RpE.im e0 rv).mono eg2)))
        | _ => exact h2.elim⟩
def viewK (r : Rho) : D → Option (List (Key × D))
  | .dic ks => some ks
  | .own i => match r[i]? with
    | some (.od ks) => some ks
    | _ => none
  | _ => none
theorem rd_mono {H H' : Hp} {a : Addr} {u : HO} (e : Ex H H') (h : Rd H a u) : Rd H' a u := by
  rcases h with h | ⟨o, h⟩
  · exact .inl (e _ _ h)
  · exact .inr ⟨o, e _ _ h⟩
theorem dgetR {H : Hp} {a : Addr} {kvs : List (Key × V)} {k : Key} (e : Rd H a (.dK kvs)) : DGet H a (kV k) (valV kvs k) := .inl ⟨kvs, k, e, rfl, rfl⟩
theorem viewK_ok {K : PySem.W.Frag} {T : Stt} {s : St} {H : Hp} {v : V} {d : D} {ks : List (Key × D)} (R : Rl K T s H) (rv : RpE K T.G s v d) (h : viewK T.r d = some ks) : ∃ a kvs, v = .ref a ∧ Rd H a (.dK kvs) ∧ RpK K T.G kvs ks := by
  cases d with
  | dic es =>
    cases h
    cases (show Rp K T.G v (.dic ks) from rv) with
    | dic h1 h2 => exact ⟨_, _, rfl, .inr ⟨_, R.at h1 rfl⟩, h2⟩
  | own i =>
    simp only [viewK] at h
    cases e : T.r[i]? with
    | none => rw [e] at h; cases h
    | some x =>
      rw [e] at h
      cases x with
      | od es =>
        cases h
        obtain ⟨a, kvs, _, ea, eb, er⟩ := own_atD R e
        have rv2 : s[i]? = some (some v) := rv
        rw [ea] at rv2
        cases rv2
        exact ⟨a, kvs, rfl, .inl eb, er⟩
      | _ => cases h
  | _ => cases h
def fDGet (fd fk : Rho → R D) (r : Rho) : R D := (fd r).bnd fun x => (fk r).bnd fun k => match viewK r x, keyD k with
  | some ks, some k => (match valD ks k with
    | some d => .ok d
    | none => .stuck)
  | _, _ => .stuck
theorem ev_dget {o i : Expr} {fd fk : Rho → R D} (hu : X.A.units + 1 < cLine) (ho : EV X E o fd) (hi : EV X E i fk) (hs : NoSl i := by intro _ _; rfl) : EV X E (.Subscript o i pos) (fDGet fd fk) :=
  pe_imp (pe_dget hu ho hi hs) fun s H Q ⟨T, R, h⟩ => ⟨T, R, KE.bnd h fun d G1 H1 _ eg eh R1 h1 v rv =>
    ⟨{ T with G := G1 }, R1, KE.bnd (show KE X.K X.mg E { T with G := G1 } s H1 _ ((fk T.r).bnd fun k => match viewK T.r d, keyD k with
      | some ks, some k => (match valD ks k with
        | some d => .ok d
        | none => .stuck)
      | _, _ => .stuck) from h1) fun dk G2 H2 _ eg2 eh2 R2 h2 vk rk => by
      cases e1 : viewK T.r d with
      | none => rw [e1] at h2; exact h2.elim
      | some ks =>
        cases e2 : keyD dk with
        | none => rw [e1, e2] at h2; exact h2.elim
        | some kk =>
          rw [e1, e2] at h2
          simp only at h2
          obtain ⟨a, kvs, rfl, ha, hr⟩ := viewK_ok (T := { T with G := G2 }) R2 (rv.mono eg2) e1
          have ek := keyD_ok rk e2
          subst ek
          rcases hr.val (k := kk) with ⟨z, _⟩ | ⟨x, y, z1, z2, z3⟩
          · rw [z] at h2; exact h2.elim
          · rw [z1] at h2
            exact ⟨a, y, rfl, by rw [← z2]; exact dgetR ha, fin (T := { T with G := G2 }) x h2 R2 z3⟩⟩⟩
def fDGet2 (fd fk fe : Rho → R D) (r : Rho) : R D := (fd r).bnd fun x => (fk r).bnd fun k => (fe r).bnd fun e => match viewK r x, keyD k, noOwn e with
  | some ks, some k, true => .ok ((valD ks k).getD e)
  | _, _, _ => .stuck
theorem ev_dget2 {o i f : Expr} {fd fk fe : Rho → R D} {apos : Pos} (hu : X.A.units + 1 < cLine) (ho : EV X E o fd) (hi : EV X E i fk) (hf : EV X E f fe) (m : M2 X o "get" apos i f pos) (hdct : ∀ r d, fd r = .ok d → (viewK r d).isSome = true) : EV X E (.Call (.Attribute o "get" apos) [i, f] [] pos) (fDGet2 fd fk fe) :=
  pe_imp (pe_dget2 hu ho hi hf m) fun s H Q ⟨T, R, h⟩ => ⟨T, R, KE.bnd h fun d G1 H1 ed eg eh R1 h1 v rv => by
    have hv := hdct _ _ ed
    cases e1 : viewK T.r d with
    | none => rw [e1] at hv; cases hv
    | some ks =>
      obtain ⟨a, kvs, rfl, ha, hr⟩ := viewK_ok (T := { T with G := G1 }) R1 rv e1
      refine ⟨a, rfl, .inl ⟨kvs, ha⟩, ?_⟩
      refine ⟨{ T with G := G1 }, R1, KE.bnd (show KE X.K X.mg E { T with G := G1 } s H1 _ ((fk T.r).bnd fun k => (fe T.r).bnd fun e => match viewK T.r d, keyD k, noOwn e with
        | some ks, some k, true => .ok ((valD ks k).getD e)
        | _, _, _ => .stuck) from h1) fun dk G2 H2 _ eg2 eh2 R2 h2 vk rk => ?_⟩
      refine ⟨{ T with G := G2 }, R2, KE.bnd (show KE X.K X.mg E { T with G := G2 } s H2 _ ((fe T.r).bnd fun e => match viewK T.r d, keyD dk, noOwn e with
        | some ks, some k, true => .ok ((valD ks k).getD e)
        | _, _, _ => .stuck) from h2) fun de G3 H3 _ eg3 eh3 R3 h3 ve re => ?_⟩
      cases e2 : keyD dk with
      | none => rw [e1, e2] at h3; exact h3.elim
      | some kk =>
        cases e3 : noOwn de with
        | false => rw [e1, e2, e3] at h3; exact h3.elim
        | true =>
          rw [e1, e2, e3] at h3
          have ek := keyD_ok rk e2
          subst ek
          have hr3 : RpK X.K G3 kvs ks := (hr.mono eg2).mono eg3
          refine ⟨_, dgetR (rd_mono eh3 (rd_mono eh2 ha)), ?_⟩
          have h4 : KE X.K X.mg E { T with G := G3 } s H3 (fun d G' H' => ∀ v, RpE X.K G' s v d → Q v H') (.ok ((valD ks kk).getD de)) := h3
          rcases hr3.val (k := kk) with ⟨z, z'⟩ | ⟨x, y, z1, z2, z3⟩
          · rw [z] at h4
            rw [z']
            exact fin (T := { T with G := G3 }) de h4 R3 (RpE.im e3 re)
          · rw [z1] at h4
            rw [z2]
            exact fin (T := { T with G := G3 }) x h4 R3 z3⟩
end
def listKD (r : Rho) : List D → R (List D)
  | [d] => match viewK r d with
    | some ks => .ok (ks.map fun kv => keyOfD kv.1)
    | none => .stuck
  | _ => .stuck
abbrev rListR : List V → Hp → VK → Prop := fun xs H Q => ∃ (a : Addr) (kvs : List (Key × V)), xs = [.ref a] ∧ Rd H a (.dK kvs) ∧ ∀ p, H p = none → Q (.ref p) (upd H p (.lst (kvs.map fun kv => kV kv.1)))
theorem cn_listKD {K : PySem.W.Frag} : CallN K rListR listKD := by
  intro mg E T s H xs ds Q R rs h
  cases rs with
  | nil => exact h.elim
  | @cons v vs d ds rv rr =>
    cases rr with
    | cons _ _ => exact h.elim
    | nil =>
      simp only [listKD] at h
      cases e : viewK T.r d with
      | none => rw [e] at h; exact h.elim
      | some ks =>
        rw [e] at h
        obtain ⟨a, kvs, rfl, ha, hr⟩ := viewK_ok R rv e
        refine ⟨a, kvs, rfl, ha, fun q hq => ?_⟩
        exact KE.lay (show KE K mg E T s H _ (.ok (ks.map fun kv => keyOfD kv.1)) from h) R hq q _ hq upd_same (R.gf _ hq) hr.keys
def fDV (i : Nat) (r : Rho) : R D := match r[i]? with
  | some (.od _) => .ok (.own i)
  | some (.im (.dic ks)) => .ok (.dic ks)
  | _ => .stuck
theorem fDV_view (i : Nat) (r : Rho) (d : D) (h : fDV i r = .ok d) : (viewK r d).isSome = true := by
  unfold fDV at h
  split at h
  · rename_i e
    cases h
    simp [viewK, e]
  · cases h
    rfl
  · cases h
theorem ev_dvar {X : Cx} {E : WX} {e : Expr} {i : Nat} (h : EV X E e (fVar i)) : EV X E e (fDV i) :=
  pe_imp h fun s H Q ⟨T, R, q⟩ => ⟨T, R, by
    unfold fDV at q
    unfold fVar
    cases e1 : T.r[i]? with
    | none => rw [e1] at q; exact q.elim
    | some x =>
      rw [e1] at q
      cases x with
      | od ks => exact q
      | im d =>
        cases d with
        | dic ks => exact q
        | _ => exact q.elim
      | _ => exact q.elim⟩
theorem units1 {k : Nat} {A : Around} (r : Room k A) : A.units + 1 < cLine := by
  have := r.units
  omega
end PL
end
section
namespace PL
open PySem PySem.Spec PyProof.Rows L2
section
variable {X : Cx} {E : WX} {es : List Expr} {t : TA} {pos : Pos} {a : Expr} {fs : Rho → R (List D)} {fa : Rho → R D}
def wkD : D → D
  | .tpn ds => .tup ds
  | d => d
def fWk (f : Rho → R D) (r : Rho) : R D := (f r).bnd fun d => .ok (wkD d)
theorem wk_ok {K : PySem.W.Frag} {G : Hp} {s : St} {v : V} {d : D} (h : RpE K G s v d) : RpE K G s v (wkD d) := by
  cases d with
  | tpn ds =>
    cases (show Rp K G v (.tpn ds) from h) with
    | tpn h1 h2 h3 => exact Rp.tup (.inl (.inr ⟨_, h1⟩)) h3
  | _ => exact h
theorem ev_wk (h : EV X E a fa) : EV X E a (fWk fa) :=
  pe_imp h fun s H Q ⟨T, R, h⟩ => ⟨T, R, KE.bnd h fun d G1 H1 _ eg eh R1 h1 v rv => KE.here (show KE X.K X.mg E { T with G := G1 } s H1 _ (.ok (wkD d)) from h1) R1 v (wk_ok rv)⟩
end
section
variable {X : Cx}
theorem call_tupleF : CallR X (.type "tuple") (fun xs H Q => ∃ p ys, xs = [.ref p] ∧ SqL X.K H p ys ∧ ∀ l (o : Obj), H l = none → o.dict = none → Q (.ref l) (upd H l (.frz o (.tup ys)))) := by
  intro pins s σ H xs us Q I r h
  obtain ⟨p, ys, rfl, hq, q⟩ := h
  obtain ⟨u, rfl, rx⟩ := vals1 r
  cases rx
  obtain ⟨its, r', pl, hz⟩ := I.list hq
  have hlen := r'.length
  refine call_tuple_list pl.isList (fun h' kp => ?_) (by simp only [List.size_toArray] <;> omega)
  have I1 : Inv X pins σ H { s with heap := h' } := I.kept (t' := s.toks) kp
  have I2 : Inv X pins σ (upd H h'.objs.size (.frz { cls := .type "tuple", data := .seq its.toArray } (.tup ys))) { s with heap := h'.push { cls := .type "tuple", data := .seq its.toArray } } :=
    I1.laid (t' := s.toks) (fun b o e => Heap.get?_push_of_some _ e) (Nat.le_refl _) (show ObjOk X.prog X.w _ _ _ (.frz _ (.tup ys)) from ⟨Heap.get?_push_size _ rfl, hz, its, r', IsTup.new _ _⟩)
  exact ⟨.ref h'.objs.size, _, I2, rfl, q _ _ (I1.hok.fresh (Nat.le_refl _)) rfl⟩
end
def tupleN (r : Rho) : List D → R D
  | [d] => match viewL r d with
    | some ds => .ok (.tpn ds)
    | none => .stuck
  | _ => .stuck
theorem cs_tupleN {K : PySem.W.Frag} : CallS K (fun xs H Q => ∃ p ys, xs = [.ref p] ∧ SqL K H p ys ∧ ∀ l (o : Obj), H l = none → o.dict = none → Q (.ref l) (upd H l (.frz o (.tup ys)))) tupleN := by
  intro mg E T s H xs ds Q R rs h
  cases rs with
  | nil => exact h.elim
  | @cons v vs d ds rv rr =>
    cases rr with
    | cons _ _ => exact h.elim
    | nil =>
      simp only [tupleN] at h
      cases e : viewL T.r d with
      | none => rw [e] at h; exact h.elim
      | some es =>
        rw [e] at h
        obtain ⟨a, xs, rfl, hq, hr⟩ := viewL_ok R rv e
        exact ⟨a, xs, rfl, SqL.of hq, fun l o hl ho => finNew (.tpn es) h R hl (Rp.tpn (o := o) upd_same ho (hr.mono (ex_new (R.gf _ hl))))⟩
theorem tuple_keys_none : typeLookup (.type "tuple") "keys" = pure none := am_miss_of_fast (by first | decide +kernel | rfl)
section
variable {prog : Program} {w : World} {A : Around} {E : Value → Shared → Prop}
theorem miss_tuple {s : Shared} {a : Addr} {o : Obj} {xs : Array Value} {k : Nat} {Q : Option Value → Shared → Prop} (hx : s.heap.get? a = some o) (hc : o.cls = .type "tuple") (hdat : o.data = .seq xs k) (hd : o.dict = none) (hA : A.handled = none)
    (h : ∀ h' tk, (∀ b ob, s.heap.get? b = some ob → h'.get? b = some ob) → Q none { s with heap := h', toks := tk }) : wpAny (model prog w) A (getAttr? (.ref a) "keys") Q E s := by
  obtain ⟨c, dct, dat, sl⟩ := o
  simp only at hc hdat hd
  subst hc hdat hd
  obtain ⟨hp, g, d, tk, os⟩ := s
  have hT : ∀ tk', (⟨hp, g, d, tk', os⟩ : Shared).TypeIs (.ref a) "tuple" := fun _ => ⟨_, hx, rfl⟩
  have hmiss := tuple_keys_none
  have hname : (["__module__", "__name__", "__qualname__", "__doc__", "__annotations__"] : List Str).contains "keys" = false := by decide +kernel
  have hsz : ("keys" : Str).length + 100 ≤ sizeLine := by first | size_fits | decide +kernel
  have f1 := sub_AttributeError
  have f3 := PySem.F.slot_tuple_getattribute.lookup
  have f4 := PySem.F.slot_tuple_getattribute.bind (.ref a)
  have f5 := am_tuple_getattr_none
  unfold getAttr? getAttrBy? getAttrBy
  repeat (any_goals (first | assumption | exact hT _ | ((with_reducible show wpAny _ _ (call (Value.builtin "tuple.__getattribute__") _ _) _ _ _); refine call_meets PySem.F.slot_tuple_getattribute (hT _) am_entry_tuple_getattribute (PySem.F.args_tuple_getattribute_2 _ _) (meets_getattribute_miss_tuple a xs k sl "keys" _ hmiss hname hsz) ⟨hx, hA, fun h' tk' e hx' => ?_⟩) | wp_step))
  obtain ⟨t', u', he⟩ := hx'.there
  show wpAny _ _ (getattributeRaised _ _ _ _ _ _ _) _ _ _
  unfold getattributeRaised
  repeat (any_goals (first | assumption | wp_step))
  all_goals first | exact h _ _ hx'.keeps | (dsimp only; repeat (any_goals (first | assumption | exact h _ _ hx'.keeps | wp_step)))
theorem upd_loopT {R : Result → Shared → Prop} {S I l : Addr} {items : Array Value} {res : Value} (hh : A.handled = none) (hlI : l ≠ I) (hSI : S ≠ I) (hSl : S ≠ l) :
    ∀ (rest : List (Key × Value)) (i : Nat) (acc : List (Key × Value)) (ix : Int) (t : Tok) (s : Shared), items.size = i + rest.length → acc.length + rest.length ≤ sizeLine →
      (∀ (j : Nat) (q : Key × Value), rest[j]? = some q → ∃ (b : Addr) (u : Value), items[i + j]? = some (.ref b) ∧ b ≠ S ∧ b ≠ I ∧ IsTup s.heap b #[u, q.2] ∧ keyIs q.1 u = true) →
      s.heap.IsTupleIter I l i → s.heap.IsTuple l items → s.heap.DictOf (mixKind prog w) S acc →
      (∀ h' tk, h'.DictOf (mixKind prog w) S (merged acc rest) → (∀ b o, b ≠ S → b ≠ I → s.heap.get? b = some o → h'.get? b = some o) → R (.ok (.ret res)) { s with heap := h', toks := tk }) →
      codeAny (model prog w) A (.builtin "dict.update.loop" ⟨[.ref S, .ref I, .int ix t, res], []⟩) R s
  | [], i, acc, ix, t, s, hsz, hln, ht, hit, hl, hm, hR => by
    refine codeAny_builtin ud_entry ?_
    rw [Around.under_plainId ud_plain _]
    show wpAny _ A.in1 (pyNext (.ref I) >>= _) _ _ s
    refine wpAny_bind (wpAny_pyNext_tuple_end (A := A.in1) hh hit hl (by first | exact Array.getElem?_eq_none (Nat.le_of_eq hsz) | (simp at hsz; simp; omega)) fun h' he => ?_)
    show wpAny _ A.in1 (Builtin.Dict.addKeywords S [] >>= _) _ _ _
    refine wpAny_bind (wpAny_pure (wpAny_pure ?_))
    exact hR h' s.toks (hm.extBut he hSI) fun b o _ hb e => he b o hb e
  | q :: rest, i, acc, ix, t, s, hsz, hln, ht, hit, hl, hm, hR => by
    obtain ⟨b, u, hb, hbS, hbI, htup, hk⟩ := ht 0 q rfl
    rw [List.length_cons] at hsz hln
    refine codeAny_builtin ud_entry ?_
    rw [Around.under_plainId ud_plain _]
    show wpAny _ A.in1 (pyNext (.ref I) >>= _) _ _ s
    refine wpAny_bind (wpAny_pyNext_tuple_item (x := .ref b) hit hl (by simpa using hb) fun h1 hit1 hs1 => ?_)
    have ht1 : IsTup h1 b #[u, q.2] := htup.extBut hs1.extBut hbI
    have hl1 : h1.IsTuple l items := hl.extBut hs1.extBut hlI
    have hm1 : h1.DictOf (mixKind prog w) S acc := hm.extBut hs1.extBut hSI
    obtain ⟨o, ho, hc, n, hd⟩ := id ht1
    show wpAny _ A.in1 (holding [Value.ref b] _ >>= _) _ _ _
    refine wpAny_bind (wpAny_holding ?_)
    refine wpAny_bind (wpAny_tryCatch ?_)
    unfold Builtin.Dict.pairItems
    refine wpAny_bind (wpAny_typeOf (T := "tuple") ⟨o, ho, hc⟩ ?_)
    rw [if_pos (by first | decide | rfl | simp)]
    refine wpAny_bind (wpAny_seqItems ho hd (wpAny_pure ?_))
    show wpAny _ A.in1 (holding [u, q.2] (dictSet S u q.2)) _ _ _
    refine wpAny_holding (wpAny_dictSet_pairs (knd := mixKind prog w) (k := q.1) hk hm1 (fun h2 hm2 hs2 => ?_) (by omega))
    refine wpAny_pure ⟨plainId_quiet ud_plain _, upd_loopT (items := items) hh hlI hSI hSl rest (i + 1) (stored acc q.1 q.2) (ix + 1) 0 _ (show items.size = i + 1 + rest.length by omega) ?_ (fun j q' e => ?_) ?_ ?_ hm2 fun h' tk hd' k => ?_⟩
    · have z := stored_length_le acc q.1 q.2
      omega
    · obtain ⟨b', u', hb', hbS', hbI', htup', hk'⟩ := ht (j + 1) q' (by simpa using e)
      refine ⟨b', u', ?_, hbS', hbI', (htup'.extBut hs1.extBut hbI').extBut hs2.extBut hbS', hk'⟩
      rw [show i + 1 + j = i + (j + 1) by omega]
      exact hb'
    · exact hit1.extBut hs2.extBut (Ne.symm hSI)
    · exact hl1.extBut hs2.extBut (Ne.symm hSl)
    · exact hR h' tk hd' fun c oc h3 h4 e => k c oc h3 h4 (hs2.extBut c oc h3 (hs1.extBut c oc h4 e))
theorem call_dict_tup {s : Shared} {l : Addr} {ol : Obj} {items : Array Value} {n : Nat} {prs : List (Key × Value)} {Q : Value → Shared → Prop} (hh : A.handled = none) (hl : s.heap.get? l = some ol) (hc : ol.cls = .type "tuple") (hd : ol.dict = none)
    (hdat : ol.data = .seq items n) (hsz : items.size = prs.length) (hln : prs.length ≤ sizeLine)
    (ht : ∀ (j : Nat) (q : Key × Value), prs[j]? = some q → ∃ (b : Addr) (u : Value), items[j]? = some (.ref b) ∧ IsTup s.heap b #[u, q.2] ∧ keyIs q.1 u = true)
    (h : ∀ h' tk, h'.DictOf (mixKind prog w) s.heap.objs.size (merged [] prs) → (∀ b o, s.heap.get? b = some o → h'.get? b = some o) → Q (.ref s.heap.objs.size) { s with heap := h', toks := tk }) :
    wpAny (model prog w) A (call (.type "dict") [.ref l]) Q E s := by
  refine callType_codes (Q₁ := fun obj s₁ => obj = .ref s.heap.objs.size ∧ s₁ = { s with heap := s.heap.push { cls := .type "dict", data := .dict #[] } }) PySem.F.kt_called_dict (PySem.F.kt_typeCall_dict_1 _) PySem.F.entry_dict_init (kt_code_dict_new _ ⟨rfl, rfl⟩) ?_
  rintro obj s₁ ⟨rfl, rfl⟩
  have hnew : (s.heap.push { cls := .type "dict", data := .dict #[] }).DictOf (mixKind prog w) s.heap.objs.size [] := Heap.DictOf.new s.heap
  have k0 : ∀ b o, s.heap.get? b = some o → (s.heap.push { cls := .type "dict", data := .dict #[] }).get? b = some o := fun b o e => Heap.get?_push_of_some _ e
  refine ⟨hnew.typeIs, PySem.F.args_dict_init_2 _ _, ?_⟩
  unfold Builtin.«dict.__init__»
  refine wpAny_bind ?_
  unfold Builtin.Dict.selfAndRest
  refine wpAny_bind (wpAny_notOrdered_dict hnew.typeIs ?_)
  show wpAny _ _ (pure (s.heap.objs.size, [Value.ref l])) _ _ _
  refine wpAny_pure ?_
  show wpAny _ _ (Builtin.Dict.updateFrom "dict.__init__" s.heap.objs.size (.ref l) [] .none) _ _ _
  unfold Builtin.Dict.updateFrom
  refine wpAny_bind (wpAny_typeOf (T := "tuple") ⟨ol, k0 _ _ hl, hc⟩ ?_)
  rw [if_pos (by first | decide | rfl | simp)]
  refine wpAny_bind (miss_tuple (k0 _ _ hl) hc hdat hd hh fun h1 tk1 hk1 => ?_)
  rw [if_pos (show (none : Option Value).isNone = true from rfl)]
  refine wpAny_bind (wpAny_rule ?_)
  have hl1 : h1.IsTuple l items := ⟨ol, hk1 _ _ (k0 _ _ hl), hc, n, hdat⟩
  have hS1 : s.heap.objs.size < h1.objs.size := by
    have e : (s.heap.push { cls := .type "dict", data := .dict #[] }).get? s.heap.objs.size = some { cls := .type "dict", data := .dict #[] } := Heap.get?_push_size _ rfl
    exact Heap.lt_size (hk1 _ _ e)
  refine wpAny_bind (wpAny_pyIter_tuple hl1 ?_)
  have k2 : ∀ b o, h1.get? b = some o → (h1.push { cls := .type "tuple_iterator", data := .fields #[.ref l, .int 0 0] }).get? b = some o := fun b o e => Heap.get?_push_of_some _ e
  have hlt : l < s.heap.objs.size := Heap.lt_size hl
  have key := upd_loopT (prog := prog) (w := w) (A := A.in1) (R := wants (fun r s₂ => r = .none ∧ Q (.ref s.heap.objs.size) s₂) E) (S := s.heap.objs.size) (I := h1.objs.size) (l := l) (items := items) (res := Value.none) hh
    (Nat.ne_of_lt (Nat.lt_trans hlt hS1)) (Nat.ne_of_lt hS1) (Nat.ne_of_gt hlt) prs 0 [] 0 0
    { s with heap := h1.push { cls := .type "tuple_iterator", data := .fields #[.ref l, .int 0 0] }, toks := tk1 } (by rw [hsz, Nat.zero_add]) (by rw [List.length_nil, Nat.zero_add]; exact hln)
    (fun j q e => by
      obtain ⟨b, u, e1, e2, e3⟩ := ht j q e
      have hb : b < s.heap.objs.size := e2.lt
      exact ⟨b, u, by rw [Nat.zero_add]; exact e1, Nat.ne_of_lt hb, Nat.ne_of_lt (Nat.lt_trans hb hS1), e2.keeps fun c o z => k2 _ _ (hk1 _ _ (k0 _ _ z)), e3⟩)
    ⟨_, Heap.get?_push_size _ rfl, rfl, rfl⟩ (hl1.push _) ((hnew.at fun o e => hk1 _ _ e).at fun o e => k2 _ _ e)
    (fun h' tk hd' k => ⟨rfl, h h' tk hd' fun b o e => k b o (Nat.ne_of_lt (Heap.lt_size e)) (Nat.ne_of_lt (Nat.lt_trans (Heap.lt_size e) hS1)) (k2 _ _ (hk1 _ _ (k0 _ _ e)))⟩)
  first
    | exact wpAny_pure ⟨plainId_quiet ud_plain _, key⟩
    | exact wpAny_bind (wpAny_pure (wpAny_pure ⟨plainId_quiet ud_plain _, key⟩))
end
section
variable {X : Cx}
abbrev rDictT (K : PySem.W.Frag) : List V → Hp → VK → Prop := fun xs H Q => ∃ (a : Addr) (o : Obj) (ps : List Addr) (kvs : List (Key × V)), xs = [.ref a] ∧ H a = some (.frz o (.tup (ps.map V.ref))) ∧ o.dict = none ∧ Paired (fun p kv => SqT K H p [kV kv.1, kv.2]) ps kvs ∧
    ∀ p, H p = none → Q (.ref p) (upd H p (.dK (mergeK [] kvs)))
theorem call_dictT (hcalm : X.calm = true) : CallR X (.type "dict") (rDictT X.K) := by
  intro pins s σ H xs us Q I r q
  obtain ⟨a, ob, ps, kvs, ex, hq, hdn, hp, q⟩ := q
  subst ex
  obtain ⟨u, eu, rx⟩ := vals1 r
  subst eu
  cases rx
  obtain ⟨ho, hz, its, rv, o', ho', hc, n, hdat⟩ := (show ObjOk X.prog X.w H s.heap a (.frz ob (.tup (ps.map V.ref))) from I.hok a _ hq)
  have eo : o' = ob := by rw [ho] at ho'; exact (Option.some.inj ho').symm
  subst eo
  have ei := refs_at rv
  subst ei
  rw [List.length_map] at hz
  obtain ⟨prs, rel, hl, hpr⟩ := pairs_of I hp
  refine call_dict_tup (prs := prs) (I.ok.hd hcalm) ho hc hdn hdat (by simp [hl]) (by rw [hl]; exact hz) (fun j q' e => ?_) fun h' tk hd' k => ?_
  · obtain ⟨b, u, e1, e2, e3⟩ := hpr j q' e
    exact ⟨b, u, by simp [e1], e2, e3⟩
  · have hm : (s.heap.objs.size == sysModules) = false := beq_eq_false_iff_ne.mpr (Nat.ne_of_gt I.big)
    have hlen : (mergeK [] kvs).length ≤ sizeLine := by
      refine Nat.le_trans (length_mergeK kvs []) ?_
      rw [List.length_nil, Nat.zero_add, rel.length, hl]
      exact hz
    exact ⟨.ref s.heap.objs.size, upd H s.heap.objs.size (.dK (mergeK [] kvs)), I.laid (t' := tk) k (Nat.le_refl _) (show ObjOk X.prog X.w _ _ _ (.dK (mergeK [] kvs)) from ⟨hlen, hm, merged [] prs, KV.merge rel .nil, hd'⟩), rfl, q _ (I.hok.fresh (Nat.le_refl _))⟩
end
theorem callR_lock {f : Value} {r : List V → Hp → VK → Prop} (hc : CallR X f r) : CallR X f (fun xs H Q => r xs H (fun v H' => ∃ p kvs, v = .ref p ∧ H' p = some (.dK kvs) ∧ ∀ o, Q v (upd H' p (.frz o (.dK kvs))))) := fun pins s σ H xs us Q I rv h =>
  wpAny_mono (hc pins s σ H xs us _ I rv h) (fun v s' ⟨x, H', I1, rx, p, kvs, ex, hp, q⟩ => by
    obtain ⟨o, I2⟩ := I1.lock hp trivial
    exact ⟨x, _, I2, rx, q o⟩) fun _ _ z => z
abbrev rDictF (K : PySem.W.Frag) : List V → Hp → VK → Prop := fun xs H Q => rDictT K xs H (fun v H' => ∃ p kvs, v = .ref p ∧ H' p = some (.dK kvs) ∧ ∀ o, Q v (upd H' p (.frz o (.dK kvs))))
theorem call_dictF (hcalm : X.calm = true) : CallR X (.type "dict") (rDictF X.K) := callR_lock (call_dictT hcalm)
theorem upd_upd' {H : Hp} {p : Addr} {a b : HO} : upd (upd H p a) p b = upd H p b := funext fun x => by
  by_cases z : x = p
  · rw [z, upd_same, upd_same]
  · rw [upd_ne z, upd_ne z, upd_ne z]
def pairsD : List D → Option (List (Key × D))
  | [] => some []
  | .tup [k, d] :: ds => (match keyD k, pairsD ds with
    | some k, some r => some ((k, d) :: r)
    | _, _ => none)
  | _ => none
def mergeD (ks more : List (Key × D)) : List (Key × D) := more.foldl (fun acc kv => putD acc kv.1 kv.2) ks
theorem RpK.merge {K : PySem.W.Frag} {G : Hp} : ∀ {more : List (Key × V)} {md : List (Key × D)} {v : List (Key × V)} {d : List (Key × D)}, RpK K G more md → RpK K G v d → RpK K G (mergeK v more) (mergeD d md)
  | _, _, _, _, .nil, r => r
  | _, _, _, _, .cons (k := k0) h t, r => by
    have q := RpK.merge t (r.put (k := k0) h)
    exact q
theorem pairsD_ok {K : PySem.W.Frag} {G : Hp} : ∀ {ds : List D} {xs : List V} {kds : List (Key × D)}, pairsD ds = some kds → RpA K G xs ds → ∃ (ps : List Addr) (kvs : List (Key × V)), xs = ps.map V.ref ∧ Paired (fun p kv => SqT K G p [kV kv.1, kv.2]) ps kvs ∧ RpK K G kvs kds
  | [], _, _, h, .nil => by
    cases h
    exact ⟨[], [], rfl, .nil, .nil⟩
  | d :: ds, _, kds, h, .cons (v := v) (vs := vs) hv r => by
    cases d with
    | tup es =>
      cases es with
      | nil => cases h
      | cons k es =>
        cases es with
        | nil => cases h
        | cons x es =>
          cases es with
          | cons _ _ => cases h
          | nil =>
            simp only [pairsD] at h
            cases e1 : keyD k with
            | none => rw [e1] at h; cases h
            | some kk =>
              cases e2 : pairsD ds with
              | none => rw [e1, e2] at h; cases h
              | some rr =>
                rw [e1, e2] at h
                cases h
                obtain ⟨ps, kvs, q1, q2, q3⟩ := pairsD_ok e2 r
                cases hv with
                | @tup a ys _ h1 h2 =>
                  cases h2 with
                  | @cons v1 vs1 _ _ hk h3 =>
                    cases h3 with
                    | @cons v2 vs2 _ _ hx h4 =>
                      cases h4
                      have ek := keyD_ok (s := []) hk.e e1
                      subst ek
                      exact ⟨a :: ps, (kk, v2) :: kvs, by rw [q1]; rfl, .cons h1 q2, .cons hx q3⟩
    | _ => cases h
def dictD (r : Rho) : List D → R D
  | [.tpn ds] => (match pairsD ds with
    | some ks => .ok (.dic (mergeD [] ks))
    | none => .stuck)
  | [.lst ds] => (match pairsD ds with
    | some ks => .ok (.dic (mergeD [] ks))
    | none => .stuck)
  | [d] => (match viewK r d with
    | some ks => .ok (.dic ks)
    | none => .stuck)
  | _ => .stuck
abbrev lockK (r : List V → Hp → VK → Prop) : List V → Hp → VK → Prop := fun xs H Q => r xs H (fun v H' => ∃ p kvs, v = .ref p ∧ H' p = some (.dK kvs) ∧ ∀ o, Q v (upd H' p (.frz o (.dK kvs))))
abbrev rDictP (K : PySem.W.Frag) : List V → Hp → VK → Prop := fun xs H Q => ∃ (a : Addr) (ps : List Addr) (kvs : List (Key × V)), xs = [.ref a] ∧ SqL K H a (ps.map V.ref) ∧ Paired (fun p kv => SqT K H p [kV kv.1, kv.2]) ps kvs ∧ ∀ p, H p = none → Q (.ref p) (upd H p (.dK (mergeK [] kvs)))
abbrev rDictC : List V → Hp → VK → Prop := fun xs H Q => ∃ (a : Addr) (kvs : List (Key × V)), xs = [.ref a] ∧ Rd H a (.dK kvs) ∧ ∀ p, H p = none → Q (.ref p) (upd H p (.dK kvs))
abbrev rDictA (K : PySem.W.Frag) : List V → Hp → VK → Prop := fun xs H Q => rDictF K xs H Q ∨ (lockK (rDictP K) xs H Q ∨ lockK rDictC xs H Q)
theorem callR_or {X : Cx} {f : Value} {r r' : List V → Hp → VK → Prop} (h : CallR X f r) (h' : CallR X f r') : CallR X f (fun xs H Q => r xs H Q ∨ r' xs H Q) := fun pins s σ H xs us Q I rv q => by
  rcases q with q | q
  · exact h pins s σ H xs us Q I rv q
  · exact h' pins s σ H xs us Q I rv q
theorem call_dictA {X : Cx} (hcalm : X.calm = true) : CallR X (.type "dict") (rDictA X.K) := callR_or (call_dictF hcalm) (callR_or (callR_lock (call_dictP hcalm)) (callR_lock call_dictD))
theorem paired_mono {K : PySem.W.Frag} {G H : Hp} (e : Ex G H) : ∀ {ps : List Addr} {kvs : List (Key × V)}, Paired (fun p kv => SqT K G p [kV kv.1, kv.2]) ps kvs → Paired (fun p kv => SqT K H p [kV kv.1, kv.2]) ps kvs
  | _, _, .nil => .nil
  | _, _, .cons h t => .cons (ex_t e h) (paired_mono e t)
theorem paired_um {K : PySem.W.Frag} {G : Hp} : ∀ {ps : List Addr} {kvs : List (Key × V)}, Paired (fun p kv => SqT K G p [kV kv.1, kv.2]) ps kvs → Paired (fun p kv => SqT K (um G) p [kV kv.1, kv.2]) ps kvs
  | _, _, .nil => .nil
  | _, _, .cons h r => .cons (um_t h) (paired_um r)
theorem RpK.mono' {K : PySem.W.Frag} {G G' : Hp} (e : Ex G G') : ∀ {v : List (Key × V)} {d : List (Key × D)}, RpK K G v d → RpK K G' v d
  | _, _, .nil => .nil
  | _, _, .cons h r => .cons (h.mono e) (RpK.mono' e r)
theorem cs_dictD {K : PySem.W.Frag} : CallS K (rDictA K) dictD := by
  intro mg E T s H xs ds Q R rs h
  cases rs with
  | nil => exact h.elim
  | @cons v vs d ds rv rr =>
    cases rr with
    | cons _ _ => cases d <;> exact h.elim
    | nil =>
      have copy : ∀ ks, viewK T.r d = some ks → KE K mg E T s H (fun d G' H' => ∀ v, RpE K G' s v d → Q v H') (.ok (.dic ks)) → rDictA K [v] H Q := fun ks e h => by
        obtain ⟨a, kvs, rfl, ha, hr⟩ := viewK_ok R rv e
        exact .inr (.inr ⟨a, kvs, rfl, ha, fun l hl => ⟨l, _, rfl, upd_same, fun o => by
          rw [upd_upd']
          exact finNew (.dic ks) h R hl (Rp.dic upd_same (RpK.mono' (ex_new (R.gf _ hl)) hr))⟩⟩)
      cases d with
      | dic ks => exact copy ks rfl h
      | own i =>
        have h2 : KE K mg E T s H (fun d G' H' => ∀ v, RpE K G' s v d → Q v H') (match viewK T.r (.own i) with
          | some ks => .ok (.dic ks)
          | none => .stuck) := h
        cases e : viewK T.r (.own i) with
        | none => rw [e] at h2; exact h2.elim
        | some ks => rw [e] at h2; exact copy ks e h2
      | lst es =>
        simp only [dictD] at h
        cases e : pairsD es with
        | none => rw [e] at h; exact h.elim
        | some ks =>
          rw [e] at h
          cases (show Rp K T.G v (.lst es) from rv) with
          | lst h1 h3 =>
            obtain ⟨ps, kvs, q1, q2, q3⟩ := pairsD_ok e h3
            subst q1
            refine .inr (.inl ⟨_, ps, kvs, rfl, SqL.of (R.at h1 rfl), paired_mono R.gh (paired_um q2), fun l hl => ⟨l, _, rfl, upd_same, fun o => by
              rw [upd_upd']
              exact finNew (.dic (mergeD [] ks)) h R hl (Rp.dic upd_same (RpK.mono' (ex_new (R.gf _ hl)) (RpK.merge q3 .nil)))⟩⟩)
      | tpn es =>
        simp only [dictD] at h
        cases e : pairsD es with
        | none => rw [e] at h; exact h.elim
        | some ks =>
          rw [e] at h
          cases (show Rp K T.G v (.tpn es) from rv) with
          | @tpn a o ys _ h1 h2 h3 =>
            obtain ⟨ps, kvs, q1, q2, q3⟩ := pairsD_ok e h3
            subst q1
            refine .inl ⟨a, o, ps, kvs, rfl, R.at h1 rfl, h2, paired_mono R.gh (paired_um q2), fun l hl => ⟨l, _, rfl, upd_same, fun o => by
              rw [upd_upd']
              exact finNew (.dic (mergeD [] ks)) h R hl (Rp.dic upd_same (RpK.mono' (ex_new (R.gf _ hl)) (RpK.merge q3 .nil)))⟩⟩
      | _ => exact h.elim
end PL
end
section
namespace PL
open PySem PySem.Spec PyProof.Rows L2
section
variable {prog : Program} {w : World} {A : Around} {E : Value → Shared → Prop} {s : Shared}
end
section
variable {X : Cx} {E : WX}
end
section
variable {prog : Program} {w : World} {A : Around} {E : Value → Shared → Prop} {s : Shared} {T : String} {r d : Addr} {n : Nat} {P : Nat → Value → Prop} {OK : Heap → Prop}
end
end PL
end
section
namespace PL
open PySem PySem.Spec PyProof.Rows L2
def ISt (w : World) (h : Heap) (a : Addr) (ks : List Int) : Prop :=
  ∃ o es ep t, h.get? a = some o ∧ o.ExactSet ∧ o.data = .set es ep t ∧ (∀ e ∈ es.toList, ∃ k tk, e.2 = Value.int k tk ∧ e.1 = hashInt k) ∧ (es.toList.map keyOf).Perm ks ∧ ks.Nodup ∧
    es.size < scanBound ∧ t.fits es.size = true ∧ Ris t.place.toList ∧ (w.params.followText "set-order" = true ∨ t.led = true)
section
variable {P : Program} {w : World} {A : Around} {E : Value → Shared → Prop} {s : Shared} {a : Addr} {ks : List Int}
theorem ISt.keep {h h' : Heap} (R : ISt w h a ks) (k : ∀ o, h.get? a = some o → h'.get? a = some o) : ISt w h' a ks := by
  obtain ⟨o, es, ep, t, ho, r⟩ := R
  exact ⟨o, es, ep, t, k o ho, r⟩
end
section
variable {prog : Program} {w : World} {A : Around} {R : Result → Shared → Prop} {I : Addr} {fp wr : List Addr} {G : Array GenState → Array GenState → Prop} {n : Nat} {P : Nat → Value → Prop} {St : Nat → Shared → Prop}
end
section
variable {P : Program} {w : World} {A : Around} {E : Value → Shared → Prop} {s : Shared}
end
end PL
end
section
namespace PL
open PySem PySem.Spec PyProof.Rows L2 PySem.W
section
variable {prog : Program} {w : World} {A : Around} {E : Value → Shared → Prop} {s : Shared}
end
section
variable {prog : Program} {w : World} {A : Around} {E : Value → Shared → Prop} {s : Shared}
theorem ne_lo {a b lo : Addr} (h1 : a < lo) (h2 : lo ≤ b) : b ≠ a := Nat.ne_of_gt (Nat.lt_of_lt_of_le h1 h2)
structure ZAt (h : Heap) (z TI TO i1 i2 l1 l2 : Addr) (xs ys : Array Value) (k lo : Nat) : Prop where
  ti : IsPair h TI (.ref i1) (.ref i2)
  a1 : h.IsTupleIter i1 l1 k
  a2 : h.IsTupleIter i2 l2 k
  b1 : h.IsTuple l1 xs
  b2 : h.IsTuple l2 ys
  zz : (IsZip h z TI TO .none ∧ ∃ a b, IsPair h TO a b) ∨ ∃ T f oT, IsZipHeld h z TI TO T f ∧ h.get? T = some oT ∧ lo ≤ T
theorem ZAt.keep {h h' : Heap} {z TI TO i1 i2 l1 l2 S lo : Addr} {xs ys : Array Value} {k : Nat} (Z : ZAt h z TI TO i1 i2 l1 l2 xs ys k lo) (hS : S < lo) (dS : S ≠ z ∧ S ≠ TO ∧ S ≠ i1 ∧ S ≠ i2 ∧ S ≠ TI ∧ S ≠ l1 ∧ S ≠ l2) (hk : ∀ b o, b ≠ S → h.get? b = some o → h'.get? b = some o) : ZAt h' z TI TO i1 i2 l1 l2 xs ys k lo where
  ti := hk _ _ (Ne.symm dS.2.2.2.2.1) Z.ti
  a1 := by
    obtain ⟨o, ho, r⟩ := Z.a1
    exact ⟨o, hk _ _ (Ne.symm dS.2.2.1) ho, r⟩
  a2 := by
    obtain ⟨o, ho, r⟩ := Z.a2
    exact ⟨o, hk _ _ (Ne.symm dS.2.2.2.1) ho, r⟩
  b1 := by
    obtain ⟨o, ho, r⟩ := Z.b1
    exact ⟨o, hk _ _ (Ne.symm dS.2.2.2.2.2.1) ho, r⟩
  b2 := by
    obtain ⟨o, ho, r⟩ := Z.b2
    exact ⟨o, hk _ _ (Ne.symm dS.2.2.2.2.2.2) ho, r⟩
  zz := by
    rcases Z.zz with ⟨hz, a, b, hTO⟩ | ⟨T, f, oT, hz, hT, hTl⟩
    · exact .inl ⟨hk _ _ (Ne.symm dS.1) hz, a, b, hk _ _ (Ne.symm dS.2.1) hTO⟩
    · exact .inr ⟨T, f, oT, hk _ _ (Ne.symm dS.1) hz, hk _ _ (ne_lo hS hTl) hT, hTl⟩
end
section
variable {X : Cx}
end
end PL
end
section
namespace PL
open PySem PySem.Spec PyProof.Rows L2
section
variable {X : Cx} {pins : List (Addr × Obj)} {σ : St} {H : Hp} {s : Shared} {a : Addr}
theorem inv_track {φ : Heap → Prop} (I : Inv X pins σ H s) (n0 : X.s_0.heap.get? a = none) (na : H a = none) (new : ObjOk X.prog X.w (upd H a (.ext φ)) s.heap a (.ext φ)) (nL : a ≠ X.env.locals)
    (nC : ∀ x c, X.env.cells.lookup x = some c → c ≠ a) (np : ∀ p ∈ X.pn ++ pins, p.1 ≠ a) : Inv X pins σ (upd H a (.ext φ)) s where
  ok := I.ok
  os := I.os
  bare := I.bare
  base := ⟨I.base.keep, I.base.slot, fun b o e n hx => by
      rw [upd_ne (fun z => by rw [z, n0] at e; cases e)]
      exact I.base.free b o e n hx, I.base.there, fun b xs e => by
      have q := I.base.tups b xs e
      rw [upd_ne (ne_of_none q na)]
      exact q, fun b o u e => by
      have q := I.base.frzs b o u e
      rw [upd_ne (ne_of_none q na)]
      exact q, fun b ps e => by
      obtain ⟨m, q⟩ := I.base.tbls b ps e
      exact ⟨m, by rw [upd_ne (ne_of_none q na)]; exact q⟩⟩
  loc := I.loc
  cell := I.cell
  free := by rw [upd_ne (Ne.symm nL)]; exact I.free
  freeC := fun x c e => by rw [upd_ne (nC x c e)]; exact I.freeC x c e
  pin := fun p hp => by
    obtain ⟨h1, h2, h3⟩ := I.pin p hp
    exact ⟨h1, by rw [upd_ne (np p hp)]; exact h2, h3⟩
  hok := fun b u e => by
    by_cases hb : b = a
    · subst hb
      rw [upd_same] at e
      cases e
      exact new
    · rw [upd_ne hb] at e
      exact (I.hok b u e).stay (fun c v _ q => q) (fun c q => by rw [upd_ne (ne_of_none q na)]; exact q) fun c xs q => by rw [upd_ne (ne_of_none q na)]; exact q
  len := I.len
end
def wKeep (K : PySem.W.Frag) (c : Value) (i : Nat) (ts : TS) (D : Ends) : WX := fun cls d σ H => PySem.W.exmOne K cls c = some true ∧ d = none ∧
  ∀ a, H a = none → ts { nx := fun σ' H' => D.nx (σ'.set i none) (upd H' a (ExcO cls a)), rt := fun _ _ => False } (σ.set i (some (.ref a))) H
section
variable {X : Cx}
structure Alien (X : Cx) (pins : List (Addr × Obj)) (a : Addr) : Prop where
  start : X.s_0.heap.get? a = none
  locals : a ≠ X.env.locals
  frames : a ∉ X.fs
  cells : ∀ x c, X.env.cells.lookup x = some c → c ≠ a
  pins : ∀ p ∈ X.pn ++ pins, p.1 ≠ a
theorem alien_of {pins : List (Addr × Obj)} {σ : St} {H : Hp} {t : Shared} {B g : Heap} {a : Addr} {Z : Obj → Prop} (I : Inv X pins σ H t) (hs : X.stack = X.env :: X.outer) (hf : X.env.frame = some X.env.locals) (hex : X.ex = [])
    (nb : ∀ b o, t.heap.get? b = some o → b ∉ frs X.stack → B.get? b = some o) (fl : HandSPX.FlyingZ B (X.env :: X.outer) a Z g) : Alien X pins a := by
  obtain ⟨_, hB, ff, _⟩ := id fl
  obtain ⟨oe, vs, ge, _, de⟩ := fl.there
  have out : a ∉ frs (X.env :: X.outer) := fun m => by
    obtain ⟨_, o, go, no⟩ := ff.mem m
    cases ge.symm.trans go
    exact no _ de
  have gone : ∀ o, t.heap.get? a ≠ some o := fun o e => by
    have := nb a o e (hs ▸ out)
    rw [hB] at this
    cases this
  refine ⟨?_, fun z => out (List.mem_filterMap.mpr ⟨X.env, List.mem_cons_self, by rw [hf, z]⟩), fun m => ?_, fun x c e z => ?_, fun p hp z => gone _ (z ▸ (I.pin p hp).1)⟩
  · cases e : X.s_0.heap.get? a with
    | none => rfl
    | some o =>
      obtain ⟨o', e'⟩ := I.base.there a o e (by rw [hex]; simp)
      exact absurd e' (gone o')
  · obtain ⟨e, he, q⟩ := List.mem_filterMap.mp m
    exact out (List.mem_filterMap.mpr ⟨e, List.mem_cons_of_mem _ he, q⟩)
  · obtain ⟨_, o, ho, _⟩ := I.cell x c e
    exact gone o (z ▸ ho)
variable {x n : Str} {c : Value} {i : Nat} {body : List Stmt} {st : Stmt} {np pos pos' : Pos} {tb : WX → TS} {ts : TS}
theorem ps_keep (hs : X.stack = X.env :: X.outer) (hf : X.env.frame = some X.env.locals) (hex : X.ex = []) (hN : X.N.Nodup) (hi : X.N[i]? = some n) (hln : X.env.kindOf n = some .local) (hg : Gl X x) (hm : X.mg x = some c) (hdb : (x == ("__debug__" : Str)) = false)
    (hb : ∀ (W : WX) (pn : List (Addr × Obj)) (xe : Value → Shared → Prop), Takes (X.tr pn xe) W → PassesOwn (model X.prog X.w) X.A X.env xe → PSs (X.tr pn xe) body (tb W)) (hst : ∀ (a : Addr) (pn : List (Addr × Obj)), PSs (X.suite a pn) [st] ts) :
    PS X (.Try body [.ExceptHandler (some (.Name x np)) (some n) [st] pos'] [] [] pos) (fun D σ H => tb (wKeep X.K c i ts D) D σ H) := ⟨fun pins s0 σ0 H0 D I0 h0 => by
  have ok := I0.ok
  have fr : X.A.frames = some (X.env :: X.outer) := ok.frames.trans (congrArg some hs)
  refine wpAny_Try_except (wpAny_mono ((hb (wKeep X.K c i ts D) (X.pn ++ pins) _ (fun u t' ex => ?hot) PassesOwn.looking).run [] s0 σ0 H0 D (I0.toTry _) h0) (fun f t1 q => ?thru) (fun _ _ q => q))
  case thru =>
    cases f with
    | next =>
      obtain ⟨σ1, H1, J, q⟩ := q
      exact wpAny_execs_nil ⟨σ1, H1, J.ofTry ok, q⟩
    | brk =>
      obtain ⟨σ1, H1, J, q⟩ := q
      exact ⟨σ1, H1, J.ofTry ok, q⟩
    | cont =>
      obtain ⟨σ1, H1, J, q⟩ := q
      exact ⟨σ1, H1, J.ofTry ok, q⟩
    | ret u =>
      obtain ⟨v, σ1, H1, J, r, q⟩ := q
      exact ⟨v, σ1, H1, J.ofTry ok, r, q⟩
  case hot =>
    obtain ⟨a, B, t, _, σ, H, cls, d, rfl, J0, nb, up, sky, na, os, ag, hcls, rfl, yes⟩ := ex
    have J : Inv X pins σ H t := J0.ofTry ok
    rw [show (X.tr (X.pn ++ pins) _).stack = X.env :: X.outer from hs] at sky
    refine Sky.land Zc.steady fr hf sky fun g fl ug => ?_
    have al := alien_of J hs hf hex nb fl
    have Jg : Inv X pins σ H { t' with heap := g } := J.landed nb fl.1 (up.trans ug) os ag
    obtain ⟨oe, _, ge, ze, de⟩ := fl.there
    have type : PySem.W.Looks (model X.prog X.w) g (typeOf (.ref a)) cls := fun _ _ _ _ k q => wpAny_typeOf_ref (k _ _ ge) (ze.1 ▸ q)
    refine wpAny_handleBy_cons (codeAny_handlers_test (ld_glob (X := X.suite a ((a, oe) :: (X.pn ++ pins))) (Jg.suite ge de na al.locals al.frames) hg hm ((PySem.W.exm_one (M := model X.prog X.w) Jg.kIn type hcls).here ?_) hdb)) (fun q => by cases q)
    refine codeAny_handlers_suite_as (HandSPX.lands_againZ fl fun k fk uk => ?_)
    obtain ⟨ok2, vk, gk, zk, dk⟩ := fk.there
    have Sk := (J.landed (s' := { t' with heap := k }) nb fk.1 ((up.trans ug).trans uk) os ag).suite gk dk na al.locals al.frames
    refine store_ok (X := X.suite a ((a, ok2) :: (X.pn ++ pins))) (v := .ref a) Sk hN hi (.inl hln) rfl (fun s5 S5 => wpAny_mono ((hst a ((a, ok2) :: (X.pn ++ pins))).run [] s5 _ H _ S5 (yes a na)) (fun f s6 q => ?_) (fun _ _ z => z.elim)) (.inr hln)
    cases f with
    | next =>
      obtain ⟨σ6, H6, S6, q6⟩ := q
      obtain ⟨g6, n6, _⟩ := S6.pin (a, ok2) (List.mem_append_left _ List.mem_cons_self)
      have kn : Inv X pins σ6 (upd H6 a (ExcO cls a)) s6 := inv_track (S6.unsuite ok) al.start n6 ⟨⟨ok2, vk, g6, zk, dk⟩, ⟨ok2, g6⟩, fun _ _ ⟨o, vs, e1, e2, e3⟩ st => ⟨o, vs, st _ e1, e2, e3⟩⟩ al.locals al.cells al.pins
      exact gone_ok kn hN hi hln fun s7 J7 => ⟨_, _, J7, q6⟩
    | brk => obtain ⟨_, _, _, z⟩ := q; exact z.elim
    | cont => obtain ⟨_, _, _, z⟩ := q; exact z.elim
    | ret u => obtain ⟨_, _, _, _, _, z⟩ := q; exact z.elim⟩
end
end PL
end
section
namespace PL
open PySem PySem.Spec PyProof.Rows L2
def KS1 (K : PySem.W.Frag) (mg : Str → Option Value) (E : WX) (T : Stt) (s : St) (H : Hp) (Z : Ends) : R Fl → Prop
  | .ok f => KS K mg E T Z (.ok f)
  | .err c => ∀ H', Ex T.H0 H' → Ex H H' → E (clsV mg c) none s H'
  | .stuck => False
def tS1 (K : PySem.W.Frag) (mg : Str → Option Value) (E : WX) (f : Rho → R Fl) : TS := fun Z s H => ∃ T, Rl K T s H ∧ KS1 K mg E T s H Z (f T.r)
def SS1 (X : Cx) (E : WX) (st : Stmt) (f : Rho → R Fl) : Prop := PS X st (tS1 X.K X.mg E f)
def SSs1 (X : Cx) (E : WX) (st : List Stmt) (f : Rho → R Fl) : Prop := PSs X st (tS1 X.K X.mg E f)
section
variable {K : PySem.W.Frag} {mg : Str → Option Value} {E : WX}
theorem KS1.bnd {α : Type} {T : Stt} {Z : Ends} {s : St} {H : Hp} {x : R α} {k : α → R Fl} {P : α → Hp → Hp → Prop} (h : KS1 K mg E T s H Z (x.bnd k))
    (hk : ∀ d G' H', x = .ok d → Ex T.G G' → Ex H H' → Rel K T.G0 T.H0 T.r s G' H' → KS1 K mg E { T with G := G' } s H' Z (k d) → P d G' H') : KE K mg E T s H P x := by
  cases x with
  | ok d =>
    refine fun G' H' a b _ c => hk d G' H' rfl a b c ?_
    have h2 : KS1 K mg E T s H Z (k d) := h
    cases e : k d with
    | ok f => rw [e] at h2; exact KS.mono (T' := { T with G := G' }) (x := .ok f) h2 rfl rfl a
    | err c => rw [e] at h2; exact fun H2 e0 e2 => h2 H2 e0 (b.trans e2)
    | stuck => rw [e] at h2; exact h2
  | err c => exact h
  | stuck => exact h
end
section
variable {X : Cx} {E : WX} {st : Stmt} {rest b1 b2 : List Stmt} {f g f1 f2 : Rho → R Fl} {e c : Expr} {fe : Rho → R D} {fc : Rho → R Bool} {pos : Pos}
theorem sss1_one (h1 : SS1 X E st f) : SSs1 X E [st] f := pss_one h1
theorem ss1_if (hc : ET X E c fc) (h1 : SSs1 X E b1 f1) (h2 : SSs1 X E b2 f2) : SS1 X E (.If c b1 b2 pos) (fIfS fc f1 f2) :=
  ps_imp (ps_if hc h1 h2) fun Z s H ⟨T, R, h⟩ => ⟨T, R, KS1.bnd h fun b G1 H1 _ eg eh R1 h1 => by
    cases b with
    | true => exact ⟨{ T with G := G1 }, R1, h1⟩
    | false => exact ⟨{ T with G := G1 }, R1, h1⟩⟩
theorem ss1_set (i : Nat) {x : Str} {pos' : Pos} (hN : X.N.Nodup) (he : EV X E e fe) (hi : X.N[i]? = some x := by rfl) (hx : Loc X.env.scope x := by first | exact Or.inl rfl | exact Or.inr rfl) (hs : swapsWith e (some (.Name x pos')) pos.line X.env = pure false := by rfl) (hf : X.fn x = true ∨ X.env.scope.names.lookup x = some .local := by first | exact .inl rfl | exact .inr rfl | assumption) :
    SS1 X E (.Assign [.Name x pos'] e pos) (fAsg (.nm i) fe) :=
  ps_impL (ps_set hN hi hx he hs hf) fun Z s H sl ⟨T, R, h⟩ => ⟨T, R, KS1.bnd h fun d G1 H1 _ eg eh R1 h1 v rv => by
    unfold imD at h1
    cases e : noOwn d with
    | false => rw [e] at h1; exact h1.elim
    | true =>
      rw [e] at h1
      have h2 : KS1 X.K X.mg E { T with G := G1 } s H1 Z ((setT (.nm i) d T.r).bnd fun r' => .ok (.nx r')) := h1
      simp only [setT] at h2
      cases e2 : decide (i < T.r.length) with
      | false => rw [e2] at h2; exact h2.elim
      | true =>
        rw [e2] at h2
        exact h2 _ G1 H1 (Same.refl _) (R1.setIm (.pure (RpE.im e rv)) (n_lt hi sl))⟩
end
def dropOwn (r : Rho) : Rho := r.map fun x => match x with
  | .im d => .im d
  | .st w os => .st w os
  | _ => .un
def fTry (i j : Nat) (ns : List Str) (fb : Rho → R Fl) (r : Rho) : R Fl := match fb r with
  | .err c => if ns.contains c && decide (i < r.length ∧ j < r.length) then .ok (.nx (((dropOwn r).set j (.im (.exc c))).set i .un)) else .stuck
  | x => x
theorem Rel.dropOwn {K : PySem.W.Frag} {G0 H0 G H H' : Hp} {r : Rho} {s : St} (R : Rel K G0 H0 r s G H) (e0 : Ex H0 H') (e : Ex H H') : Rel K G0 H0 (dropOwn r) s G H' where
  gg := R.gg
  hh := e0
  gh := R.gh.trans e
  gf := fun a q => R.gf a (e.free q)
  nw := R.nw
  sl := fun i x hx => by
    unfold PL.dropOwn at hx
    rw [List.getElem?_map] at hx
    cases q : r[i]? with
    | none => rw [q] at hx; cases hx
    | some y =>
      rw [q] at hx
      have z := R.sl i y q
      cases y <;> first | (cases hx; exact trivial) | (cases hx; exact z) | (cases hx; exact StOk.mono (Same.refl _) e (fun _ _ q => q) z)
  ds := fun i j a h1 h2 => by
    exfalso
    obtain ⟨q, _⟩ := h1
    unfold PL.dropOwn at q
    rw [List.getElem?_map] at q
    cases e : r[i]? with
    | none => rw [e] at q; exact q
    | some y => rw [e] at q; cases y <;> exact q
  ln := by
    unfold PL.dropOwn
    refine ⟨by rw [List.length_map]; exact R.ln.lo, by rw [List.length_map]; exact R.ln.hi, fun i x hx => ?_⟩
    rw [List.getElem?_map] at hx
    cases q : r[i]? with
    | none => rw [q] at hx; cases hx
    | some y =>
      rw [q] at hx
      have z := R.ln.st i y q
      cases y <;> (cases hx; exact z)
structure CatC (K : PySem.W.Frag) (mg : Str → Option Value) (x c : Str) : Prop where
  mx : mg x = some (.ref (He.ga K x))
  mc : mg c = some (.ref (He.ga K c))
  ex : PySem.W.exmOne K (.ref (He.ga K c)) (.ref (He.ga K x)) = some true
section
variable {X : Cx} {E : WX} {body : List Stmt} {fb : Rho → R Fl} {x n kn : Str} {np np2 kp sp pos pos' : Pos}
theorem ss_try (i j : Nat) (ns : List Str) {k : Nat} (C : Cxt X E k) (hs : X.stack = X.env :: X.outer) (hfr : X.env.frame = some X.env.locals) (hex : X.ex = []) (hmx : X.mg x = some (.ref (He.ga X.K x))) (hg : Gl X x) (hcat : ∀ c ∈ ns, CatC X.K X.mg x c)
    (hb : ∀ (W : WX) (pn : List (Addr × Obj)) (xe : Value → Shared → Prop), Cxt (X.tr pn xe) W k → SSs1 (X.tr pn xe) W body fb) (hij : i ≠ j := by decide)
    (hi : X.N[i]? = some n := by rfl) (hj : X.N[j]? = some kn := by rfl) (hln : X.env.kindOf n = some .local := by rfl) (hlk : X.env.scope.names.lookup kn = some .local := by rfl) (hvn : Vis X.env.scope n := by exact Or.inl rfl)
    (hdb : (x == ("__debug__" : Str)) = false := by decide) (hdn : (n == ("__debug__" : Str)) = false := by decide) (hcn : (n == ("__classdict__" : Str)) = false := by decide)
    (hsw : swapsWith (.Name n np2) (some (.Name kn kp)) sp.line X.env = pure false := by rfl) :
    SS X E (.Try body [.ExceptHandler (some (.Name x np)) (some n) [.Assign [.Name kn kp] (.Name n np2) sp] pos'] [] [] pos) (fTry i j ns fb) := by
  refine ps_impL (ps_keep (tb := fun W => tS1 X.K X.mg W fb) (ts := tAsg (tVar i) (gName j)) hs hfr hex C.nd hi hln hg hmx hdb (fun W pn xe tk po => hb W pn xe ⟨C.hr, fun σ => passAt tk σ, C.hc, C.nd, po, tk⟩)
    (fun a pn => pss_one (ps_set C.nd hj (.inl hlk) (pe_var hi hvn hdn hcn) hsw (.inr hlk)))) fun Z s H sl ⟨T, R, h⟩ => ⟨T, R, ?_⟩
  unfold fTry at h
  cases e : fb T.r with
  | ok f => rw [e] at h; cases f <;> exact h
  | stuck => rw [e] at h; exact h
  | err c =>
    rw [e] at h
    cases e2 : (ns.contains c && decide (i < T.r.length ∧ j < T.r.length)) with
    | false => simp only [e2] at h; exact h.elim
    | true =>
      simp only [e2, if_true] at h
      rw [Bool.and_eq_true] at e2
      have cc := hcat c (by simpa using e2.1)
      have lt := of_decide_eq_true e2.2
      have ec : clsV X.mg c = .ref (He.ga X.K c) := by unfold clsV; rw [cc.mc]; rfl
      intro H' e0 e1
      refine ⟨by rw [ec]; exact cc.ex, rfl, fun a na => ?_⟩
      rw [ec]
      refine ⟨.ref a, List.getElem?_set_self (n_lt hi sl), ?_⟩
      have R1 : Rel X.K T.G0 T.H0 (dropOwn T.r) s T.G H' := R.dropOwn e0 e1
      have ld : (dropOwn T.r).length = T.r.length := by unfold dropOwn; rw [List.length_map]
      have R2 := ((R1.new (o := ExcO (.ref (He.ga X.K c)) a) na).setIm (i := j) (v := .ref a) (d := .exc c) (.pure (.exc upd_same)) (n_lt hj sl)).setUn (i := i) (o := none) (by rw [List.length_set]; exact n_lt hi sl)
      have es : ((s.set i (some (V.ref a))).set j (some (V.ref a))).set i none = (s.set j (some (V.ref a))).set i none := by
        rw [List.set_comm _ _ hij, List.set_set]
      show Z.nx (((s.set i (some (V.ref a))).set j (some (V.ref a))).set i none) _
      rw [es]
      exact h _ _ _ (ex_new (R.gf _ (e1.free na))) R2
end
def rIsX (K : PySem.W.Frag) : List V → Hp → VK → Prop := fun xs H Q => ∃ (a C : Addr) (c : V) (u : Value) (b : Bool), xs = [.ref a, c] ∧ H a = some (ExcO (.ref C) a) ∧ ExcC K C ∧ ClsV c u ∧ PySem.W.kitOne K (.ref C) u = some b ∧ Q (.bl b) H
theorem call_isX {X : Cx} : CallR X (.builtin "isinstance") (rIsX X.K) := fun pins s σ H xs us Q I r h => by
  obtain ⟨a, C, c, u, b, rfl, ha, ec, k, e, q⟩ := h
  obtain ⟨u1, u2, rfl, r1, r2⟩ := vals2 r
  cases (show u1 = Value.ref a from r1)
  cases k.eq r2
  obtain ⟨⟨⟨oc, od, oda, osl⟩, vs, g, ⟨z1, z2⟩, z3⟩, _⟩ := I.hok a _ ha
  dsimp only at z1 z2 z3
  subst z1 z2 z3
  exact PySem.W.kia_one (PySem.W.handS_kitx_exc ec.hg ec.hk ec.hs ec.hd ec.ha ec.hn ec.ht ec.hm) I.kIn ⟨g, rfl, rfl, trivial⟩ e (fun z => nomatch z) fun tk => ⟨.bl b, H, I.tok tk, rfl, q⟩
def subE (c x : Str) : Bool := x == "BlendError" || x == "ValueError" || c == x
def fIsE (ns : List Str) (x : Str) (fa : Rho → R D) (r : Rho) : R D := (fa r).bnd fun d => match d with
  | .exc c => if ns.contains c then .ok (.bl (subE c x)) else .stuck
  | _ => .stuck
structure IsC (K : PySem.W.Frag) (u : Value) (x c : Str) : Prop where
  ec : ExcC K (He.ga K c)
  kit : PySem.W.kitOne K (.ref (He.ga K c)) u = some (subE c x)
section
variable {X : Cx} {E : WX} {a : Expr} {fa : Rho → R D} {p p2 pos : Pos} {x : Str}
theorem isE_red {ns : List Str} {u : Value} {v : V} (k : ClsV v u) (hf : ∀ c ∈ ns, IsC X.K u x c) {s : St} {H : Hp} {Q : VK} (h : tE X.K X.mg E (fIsE ns x fa) s H Q) :
    tE X.K X.mg E fa s H fun w H1 => rIsX X.K [w, v] H1 Q := by
  obtain ⟨T, R, h⟩ := h
  refine ⟨T, R, KE.bnd h fun d G1 H1 _ eg eh R1 h1 w rw => ?_⟩
  cases d with
  | exc c =>
    simp only at h1
    cases e : ns.contains c with
    | false => rw [e] at h1; exact h1.elim
    | true =>
      rw [e] at h1
      have f := hf c (by simpa using e)
      cases (show Rp X.K G1 w (.exc c) from rw) with
      | exc hg => exact ⟨_, _, v, u, _, rfl, R1.at hg rfl, f.ec, k, f.kit, fin (T := { T with G := G1 }) (.bl _) h1 R1 (Rp.bl _)⟩
  | _ => exact h1.elim
theorem ev_isE (ns : List Str) (hg : Gl X "isinstance") (hm : X.mg "isinstance" = none) (hgx : Gl X x) (hmx : X.mg x = some (.ref (He.ga X.K x))) (hf : ∀ c ∈ ns, IsC X.K (.ref (He.ga X.K x)) x c) (ha : EV X E a fa) (hd : (x == ("__debug__" : Str)) = false := by decide)
    (hs : starEach [a, .Name x p2] X.env = (false, eval a X.env) :: starEach [.Name x p2] X.env := by rfl) : EV X E (.Call (.Name "isinstance" p) [a, .Name x p2] [] pos) (fIsE ns x fa) :=
  pe_imp (pe_callB call_isX hg hm (by decide +kernel) (pa_cons ha (pa_cons (pe_glob (v := .ref (He.ga X.K x)) hgx hmx rfl hd) pa_nil) hs) (he := hs)) fun s H Q h => isE_red (.own _) hf h
theorem ev_isEB {B : String} (ns : List Str) (hg : Gl X "isinstance") (hm : X.mg "isinstance" = none) (hgx : Gl X x) (hmx : X.mg x = none) (hv : bootBuiltins x = some (.type B)) (hf : ∀ c ∈ ns, IsC X.K (.type B) x c) (ha : EV X E a fa) (hn : x ≠ "__name__" := by decide) (hd : (x == ("__debug__" : Str)) = false := by decide)
    (hs : starEach [a, .Name x p2] X.env = (false, eval a X.env) :: starEach [.Name x p2] X.env := by rfl) : EV X E (.Call (.Name "isinstance" p) [a, .Name x p2] [] pos) (fIsE ns x fa) :=
  pe_imp (pe_callB call_isX hg hm (by decide +kernel) (pa_cons ha (pa_cons (pe_bltn (v := .ty B) hgx hmx hv rfl hn hd) pa_nil) hs) (he := hs)) fun s H Q h => isE_red (.ty _) hf h
end
theorem bools_vals : ∀ {bs : List Bool} {its : List Value}, Vals (bs.map V.bl) its → its = bs.map Value.bool
  | [], _, .nil => rfl
  | b :: bs, _, .cons r t => by
    cases (show _ = Value.bool b from r)
    rw [bools_vals t]
    rfl
def isB (k : Bool) : Value → Bool
  | .bool b => b == k
  | _ => false
theorem isB_count (k : Bool) : ∀ bs : List Bool, (bs.map Value.bool).countP (isB k) = bs.count k
  | [] => rfl
  | b :: bs => by
    rw [List.map_cons, List.countP_cons, List.count_cons, isB_count k bs]
    rfl
def rCntB (K : PySem.W.Frag) : V → List V → Hp → VK → Prop := fun x xs H Q => ∃ (p : Addr) (bs : List Bool) (k : Bool), x = .ref p ∧ xs = [.bl k] ∧ SqL K H p (bs.map V.bl) ∧ Q (.int (bs.count k : Nat)) H
theorem mt_bcount {X : Cx} : MtR X "list.count" (rCntB X.K) := fun pins s σ H x xs v us Q I rx rxs h => by
  obtain ⟨p, bs, k, rfl, rfl, hs, q⟩ := h
  cases (show v = Value.ref p from rx)
  obtain ⟨u, rfl, ru⟩ := rxs.one
  cases (show u = Value.bool k from ru)
  obtain ⟨its, rv, ⟨⟨cls, dd, data, sl⟩, n, ho, hc, hdn, hd⟩, hlen⟩ := I.list hs
  dsimp only at hc hd
  subst hc hd
  cases bools_vals rv
  refine call_meets PySem.F.slot_list_count ⟨_, ho, rfl⟩ PySem.F.entry_list_count (PySem.F.args_list_count_2 _ _) (SeqAt.list_countAt p (bs.map Value.bool).toArray n dd sl (.bool k) (isB k)) ⟨ho, fun y hy => ?_, ?_⟩
  · obtain ⟨b, _, rfl⟩ := List.mem_map.mp (by simpa using hy : y ∈ bs.map Value.bool)
    exact SeqAt.EqAt.bool_bool b k
  · refine ⟨.int (bs.count k : Nat), H, I.tok _, ⟨s.toks, ?_⟩, q⟩
    rw [← isB_count k bs]
def cntD (r : Rho) (x y : D) : R D := match viewL r x, y with
  | some ds, .bl k => (match boolsOf ds with
    | some bs => .ok (.int (bs.count k : Nat))
    | none => .stuck)
  | _, _ => .stuck
def idxD (r : Rho) (x y : D) : R D := match viewL r x, y with
  | some ds, .bl k => (match boolsOf ds with
    | some bs => (match bs.findIdx? (· == k) with
      | some j => .ok (.int (j : Nat))
      | none => .stuck)
    | none => .stuck)
  | _, _ => .stuck
theorem bls_flat (bs : List Bool) : (bs.map V.bl).all flatV = true := by
  rw [List.all_eq_true]
  intro v hv
  obtain ⟨b, _, rfl⟩ := List.mem_map.mp hv
  rfl
def fBm (g : Rho → D → D → R D) (k : Bool) (fa : Rho → R D) (r : Rho) : R D := (fa r).bnd fun d => g r d (.bl k)
section
variable {X : Cx} {E : WX} {a : Expr} {fa : Rho → R D} {apos cpos p : Pos} {k : Bool} {j : Nat}
theorem ev_cnt (ha : EV X E a fa) (hbase : attributeBase a "count" X.env (eval a X.env) = eval a X.env := by rfl)
    (hfew : ((backTo cpos (starEach [.Constant (.bool k) j p] X.env)).all (fun x => !x.1) && (backToKw cpos (keywordEach [] X.env)).all (fun x => x.1.isSome)
      && decide ([Expr.Constant (.bool k) j p].length + ([] : List Keyword).length + (if ([] : List Keyword).isEmpty then 0 else 1) < 30)) = true := by rfl)
    (hline : (apos.endLine == cpos.line) = true := by rfl) (hs : starEach [.Constant (.bool k) j p] X.env = (false, eval (.Constant (.bool k) j p) X.env) :: starEach [] X.env := by rfl) (hplain : (backTo cpos (starEach [] X.env)).any (·.1) = false := by rfl) :
    EV X E (.Call (.Attribute a "count" apos) [.Constant (.bool k) j p] [] cpos) (fBm cntD k fa) :=
  pe_imp (pe_bm PySem.F.plainAttrs_list PySem.F.slot_list_count PySem.F.type_list_count mt_bcount ha (pa_cons pe_bl pa_nil hs) hbase hfew hline hs hplain) fun s H Q ⟨T, R, h⟩ => ⟨T, R, KE.bnd h fun d G1 H1 _ eg eh R1 h1 v rv => by
    unfold cntD at h1
    cases e1 : viewL T.r d with
    | none => rw [e1] at h1; exact h1.elim
    | some ds =>
      rw [e1] at h1
      cases e2 : boolsOf ds with
      | none => simp only [e2] at h1; exact h1.elim
      | some bs =>
        simp only [e2] at h1
        obtain ⟨q, xs, rfl, hq, hr⟩ := viewL_ok (T := { T with G := G1 }) R1 rv e1
        cases boolsOf_ok e2 hr
        exact ⟨.inl ⟨rfl, _, SqL.of hq⟩, q, bs, k, rfl, rfl, SqL.of hq, fin (T := { T with G := G1 }) (.int _) h1 R1 (Rp.int _)⟩⟩
theorem ev_idx (ha : EV X E a fa) (hbase : attributeBase a "index" X.env (eval a X.env) = eval a X.env := by rfl)
    (hfew : ((backTo cpos (starEach [.Constant (.bool k) j p] X.env)).all (fun x => !x.1) && (backToKw cpos (keywordEach [] X.env)).all (fun x => x.1.isSome)
      && decide ([Expr.Constant (.bool k) j p].length + ([] : List Keyword).length + (if ([] : List Keyword).isEmpty then 0 else 1) < 30)) = true := by rfl)
    (hline : (apos.endLine == cpos.line) = true := by rfl) (hs : starEach [.Constant (.bool k) j p] X.env = (false, eval (.Constant (.bool k) j p) X.env) :: starEach [] X.env := by rfl) (hplain : (backTo cpos (starEach [] X.env)).any (·.1) = false := by rfl) :
    EV X E (.Call (.Attribute a "index" apos) [.Constant (.bool k) j p] [] cpos) (fBm idxD k fa) :=
  pe_imp (pe_bm PySem.F.plainAttrs_list PySem.F.slot_list_index PySem.F.type_list_index mt_index ha (pa_cons pe_bl pa_nil hs) hbase hfew hline hs hplain) fun s H Q ⟨T, R, h⟩ => ⟨T, R, KE.bnd h fun d G1 H1 _ eg eh R1 h1 v rv => by
    unfold idxD at h1
    cases e1 : viewL T.r d with
    | none => rw [e1] at h1; exact h1.elim
    | some ds =>
      rw [e1] at h1
      cases e2 : boolsOf ds with
      | none => simp only [e2] at h1; exact h1.elim
      | some bs =>
        simp only [e2] at h1
        obtain ⟨q, xs, rfl, hq, hr⟩ := viewL_ok (T := { T with G := G1 }) R1 rv e1
        cases boolsOf_ok e2 hr
        cases e3 : bs.findIdx? (· == k) with
        | none => simp only [e3] at h1; exact h1.elim
        | some m =>
          simp only [e3] at h1
          rw [List.findIdx?_eq_some_iff_getElem] at e3
          obtain ⟨hm, e4, e5⟩ := e3
          refine ⟨.inl ⟨rfl, _, SqL.of hq⟩, q, bs.map V.bl, .bl k, m, .bl bs[m], rfl, rfl, SqL.of hq, rfl, bls_flat bs, by rw [List.getElem?_map, List.getElem?_eq_getElem hm]; rfl, e4, fun n z hn hz => ?_, fin (T := { T with G := G1 }) (.int _) h1 R1 (Rp.int _)⟩
          rw [List.getElem?_map, List.getElem?_eq_getElem (by omega)] at hz
          cases hz
          have := e5 n hn
          show (bs[n] == k) = false
          simpa using this⟩
end
def ecB (K : PySem.W.Frag) (C : Addr) : Bool := decide (PySem.W.findIn K (.ref C) "__getattribute__" = some (some (.builtin "BaseException.__getattribute__"))) && (decide (PySem.W.findIn K (.ref C) "__getattr__" = some none) && (decide (PySem.W.subIn K (.ref C) (.type "BaseException") = some true) &&
  (PySem.W.hasDictIn K C && (decide (PySem.W.findIn K (.ref C) "__class__" = some (some (.builtin "object.__class__"))) && (decide (PySem.W.specialIn K (.builtin "object.__class__") "__get__" = some (some (.builtin "getset_descriptor.__get__"))) &&
  (decide (PySem.W.takesIn K (.builtin "object.__class__") = some true) && decide (PySem.W.mroIn K C (.type "object") = some true)))))))
theorem ecB_ok {K : PySem.W.Frag} {C : Addr} (h : ecB K C = true) : ExcC K C := by
  unfold ecB at h
  simp only [Bool.and_eq_true, decide_eq_true_eq] at h
  exact ⟨h.1, h.2.1, h.2.2.1, h.2.2.2.1, h.2.2.2.2.1, h.2.2.2.2.2.1, h.2.2.2.2.2.2.1, h.2.2.2.2.2.2.2⟩
def errB (cs xs : List Str) (K : PySem.W.Frag) : Bool := cs.all fun c => ecB K (He.ga K c) && (decide (PySem.W.exmOne K (.ref (He.ga K c)) (.ref (He.ga K "BlendError")) = some true) &&
  (decide (PySem.W.kitOne K (.ref (He.ga K c)) (.type "ValueError") = some (subE c "ValueError")) && xs.all fun x => decide (PySem.W.kitOne K (.ref (He.ga K c)) (.ref (He.ga K x)) = some (subE c x))))
structure ErrX (K : PySem.W.Frag) (mg : Str → Option Value) (cs xs : List Str) : Prop where
  gl : ∀ x ∈ cs ++ xs, mg x = some (.ref (He.ga K x))
  bl : mg "BlendError" = some (.ref (He.ga K "BlendError"))
  ve : mg "ValueError" = none
  ok : errB cs xs K = true
namespace ErrX
variable {K : PySem.W.Frag} {mg : Str → Option Value} {cs xs : List Str} (z : ErrX K mg cs xs)
include z
theorem at_ (c : Str) (h : c ∈ cs) : ExcC K (He.ga K c) ∧ PySem.W.exmOne K (.ref (He.ga K c)) (.ref (He.ga K "BlendError")) = some true ∧ PySem.W.kitOne K (.ref (He.ga K c)) (.type "ValueError") = some (subE c "ValueError") ∧ ∀ x ∈ xs, PySem.W.kitOne K (.ref (He.ga K c)) (.ref (He.ga K x)) = some (subE c x) := by
  have q := List.all_eq_true.mp z.ok c h
  simp only [Bool.and_eq_true, decide_eq_true_eq, List.all_eq_true] at q
  exact ⟨ecB_ok q.1, q.2.1, q.2.2.1, q.2.2.2⟩
theorem cat : ∀ c ∈ cs, CatC K mg "BlendError" c := fun c h => ⟨z.bl, z.gl c (List.mem_append_left _ h), (z.at_ c h).2.1⟩
theorem is_ (x : Str) (hx : x ∈ xs) : ∀ c ∈ cs, IsC K (.ref (He.ga K x)) x c := fun c h => ⟨(z.at_ c h).1, (z.at_ c h).2.2.2 x hx⟩
theorem iv : ∀ c ∈ cs, IsC K (.type "ValueError") "ValueError" c := fun c h => ⟨(z.at_ c h).1, (z.at_ c h).2.2.1⟩
theorem gx (x : Str) (hx : x ∈ xs) : mg x = some (.ref (He.ga K x)) := z.gl x (List.mem_append_right _ hx)
end ErrX
end PL
end
section
namespace PL
open PySem PySem.Spec PyProof.Rows L2
inductive RpS (K : PySem.W.Frag) (H G' H' : Hp) : List V → List Sl → List Addr → Prop
  | nil : RpS K H G' H' [] [] []
  | im {v : V} {d : D} {vs : List V} {ss : List Sl} {ps : List Addr} : RpO K G' v d → RpS K H G' H' vs ss ps → RpS K H G' H' (v :: vs) (.im d :: ss) ps
  | ol {p : Addr} {xs : List V} {ds : List D} {vs : List V} {ss : List Sl} {ps : List Addr} : H p = none → H' p = some (.lst xs) → G' p = none → RpA K G' xs ds → p ∉ ps → RpS K H G' H' vs ss ps → RpS K H G' H' (.ref p :: vs) (.ol ds :: ss) (p :: ps)
  | od {p : Addr} {xs : List (Key × V)} {ds : List (Key × D)} {vs : List V} {ss : List Sl} {ps : List Addr} : H p = none → H' p = some (.dK xs) → G' p = none → RpK K G' xs ds → p ∉ ps → RpS K H G' H' vs ss ps → RpS K H G' H' (.ref p :: vs) (.od ds :: ss) (p :: ps)
theorem RpS.low {K : PySem.W.Frag} {H H1 G' H' : Hp} (e : Ex H H1) : ∀ {vs : List V} {ss : List Sl} {ps : List Addr}, RpS K H1 G' H' vs ss ps → RpS K H G' H' vs ss ps
  | _, _, _, .nil => .nil
  | _, _, _, .im r t => .im r (t.low e)
  | _, _, _, .ol a b c d n t => .ol (e.free a) b c d n (t.low e)
  | _, _, _, .od a b c d n t => .od (e.free a) b c d n (t.low e)
theorem RpS.none {K : PySem.W.Frag} {H G' H' : Hp} : ∀ {vs : List V} {ss : List Sl} {ps : List Addr}, RpS K H G' H' vs ss ps → ∀ p ∈ ps, H p = none
  | _, _, _, .nil, p, h => by cases h
  | _, _, _, .im r t, p, h => t.none p h
  | _, _, _, .ol a b c d n t, p, h => by
    rcases List.mem_cons.mp h with e | e
    · rw [e]; exact a
    · exact t.none p e
  | _, _, _, .od a b c d n t, p, h => by
    rcases List.mem_cons.mp h with e | e
    · rw [e]; exact a
    · exact t.none p e
def tX (K : PySem.W.Frag) (mg : Str → Option Value) (E : WX) (f : Rho → R (List Sl)) : TA := fun s H Q => ∃ T, Rl K T s H ∧ KE K mg E T s H (fun ss G' H' => ∀ vs ps, RpS K H G' H' vs ss ps → Q vs H') (f T.r)
def EX (X : Cx) (E : WX) (es : List Expr) (f : Rho → R (List Sl)) : Prop := PA X es (tX X.K X.mg E f)
def fConsI (f : Rho → R D) (fs : Rho → R (List Sl)) (r : Rho) : R (List Sl) := (f r).bnd fun d => (imD d).bnd fun d => (fs r).bnd fun ss => .ok (.im d :: ss)
def fConsO (f : Rho → R (List D)) (fs : Rho → R (List Sl)) (r : Rho) : R (List Sl) := (f r).bnd fun ds => (fs r).bnd fun ss => .ok (.ol ds :: ss)
section
variable {X : Cx} {E : WX} {a : Expr} {es : List Expr} {fa : Rho → R D} {fn : Rho → R (List D)} {fs : Rho → R (List Sl)}
theorem ex_nil : EX X E [] (fun _ => .ok []) := pa_imp pa_nil fun s H Q ⟨T, R, h⟩ => h.here R [] [] .nil
theorem ex_im (ha : EV X E a fa) (hr : EX X E es fs) (hs : starEach (a :: es) X.env = (false, eval a X.env) :: starEach es X.env := by rfl) : EX X E (a :: es) (fConsI fa fs) :=
  pa_imp (pa_cons ha hr hs) fun s H Q ⟨T, R, h⟩ => ⟨T, R, KE.bnd h fun d G1 H1 _ eg eh R1 h1 v rv => by
    unfold imD at h1
    cases e : noOwn d with
    | false => rw [e] at h1; exact h1.elim
    | true =>
      rw [e] at h1
      exact ⟨{ T with G := G1 }, R1, KE.bnd (show KE X.K X.mg E { T with G := G1 } s H1 _ ((fs T.r).bnd fun ss => .ok (.im d :: ss)) from h1) fun ss G2 H2 _ eg2 eh2 R2 h2 vs ps rs =>
        KE.here h2 R2 _ ps (.im (.pure ((RpE.im e rv).mono eg2)) (rs.low eh))⟩⟩
theorem ex_ol (ha : EN X E a fn) (hr : EX X E es fs) (hs : starEach (a :: es) X.env = (false, eval a X.env) :: starEach es X.env := by rfl) : EX X E (a :: es) (fConsO fn fs) :=
  pa_imp (pa_cons ha hr hs) fun s H Q ⟨T, R, h⟩ => ⟨T, R, KE.bnd h fun ds G1 H1 _ eg eh R1 h1 p xs hp h2 hg hr =>
    ⟨{ T with G := G1 }, R1, KE.bndN (show KE X.K X.mg E { T with G := G1 } s H1 _ ((fs T.r).bnd fun ss => .ok (.ol ds :: ss)) from h1) fun ss G2 H2 _ eg2 eh2 nw R2 h3 vs ps rs => by
      refine KE.here h3 R2 _ (p :: ps) (.ol hp (eh2 _ _ h2) ?_ (hr.mono eg2) (fun m => ?_) (rs.low eh))
      · show G2 p = Option.none
        cases e : G2 p with
        | none => rfl
        | some o => exact absurd (nw.st p o e hg) (by rw [h2]; exact fun z => by cases z)
      · have := rs.none p m
        rw [h2] at this
        cases this⟩⟩
end
section
variable {K : PySem.W.Frag} {G0 H0 G H H' : Hp} {r : Rho} {s : St}
def FreeAt (r : Rho) (s : St) (p : Addr) : Prop := ∀ k, ¬ OwnAt r s k p
theorem free_im {i : Nat} {v : V} {d : D} {p : Addr} (hi : i < r.length) (h : FreeAt r s p) : FreeAt (r.set i (.im d)) (s.set i (some v)) p := fun k ⟨q1, q2⟩ => by
  by_cases e : k = i
  · subst e
    rw [List.getElem?_set_self hi] at q1
    exact q1
  · rw [List.getElem?_set_ne (Ne.symm e)] at q1 q2
    exact h k ⟨q1, q2⟩
theorem free_ol {i : Nat} {q : Addr} {x : Sl} {p : Addr} (hi : i < s.length) (n : p ≠ q) (h : FreeAt r s p) : FreeAt (r.set i x) (s.set i (some (.ref q))) p := fun k ⟨q1, q2⟩ => by
  by_cases e : k = i
  · subst e
    rw [List.getElem?_set_self hi] at q2
    cases q2
    exact n rfl
  · rw [List.getElem?_set_ne (Ne.symm e)] at q1 q2
    exact h k ⟨q1, q2⟩
def setAll : List Nat → List Sl → Rho → Rho
  | i :: is, x :: xs, r => setAll is xs (r.set i x)
  | _, _, r => r
def putAll : List Nat → List V → St → St
  | i :: is, v :: vs, s => putAll is vs (s.set i (some v))
  | _, _, s => s
theorem Rel.setAll {B : Hp} : ∀ {is : List Nat} {vs : List V} {ss : List Sl} {ps : List Addr} {r : Rho} {s : St}, RpS K B G H' vs ss ps → Rel K G0 H0 r s G H' → (∀ i ∈ is, i < s.length) → (∀ p ∈ ps, FreeAt r s p ∧ H0 p = none) → is.length = ss.length →
    Rel K G0 H0 (PL.setAll is ss r) (putAll is vs s) G H'
  | [], _, _, _, _, _, .nil, R, _, _, _ => R
  | [], _, _, _, _, _, .im _ _, _, _, _, h => by cases h
  | [], _, _, _, _, _, .ol _ _ _ _ _ _, _, _, _, h => by cases h
  | [], _, _, _, _, _, .od _ _ _ _ _ _, _, _, _, h => by cases h
  | _ :: _, _, _, _, _, _, .nil, _, _, _, h => by cases h
  | i :: is, _, _, _, r, s, .im rv t, R, hi, hp, hl => by
    have i0 := hi i List.mem_cons_self
    have q := Rel.setAll (is := is) (r := r.set i (.im _)) (s := s.set i (some _)) t (R.setIm rv i0) (fun j hj => by rw [List.length_set]; exact hi j (List.mem_cons_of_mem _ hj)) (fun p m => ⟨free_im (Nat.lt_of_lt_of_le i0 R.ln.lo) (hp p m).1, (hp p m).2⟩) (by simpa using hl)
    exact q
  | i :: is, _, _, _, r, s, .ol a b c d n t, R, hi, hp, hl => by
    have i0 := hi i List.mem_cons_self
    have f0 := hp _ List.mem_cons_self
    have q := Rel.setAll (is := is) (r := r.set i (.ol _)) (s := s.set i (some _)) t (R.setOl b c f0.2 (fun j _ => f0.1 j) d i0) (fun j hj => by rw [List.length_set]; exact hi j (List.mem_cons_of_mem _ hj))
      (fun p m => ⟨free_ol i0 (fun z => n (z ▸ m)) (hp p (List.mem_cons_of_mem _ m)).1, (hp p (List.mem_cons_of_mem _ m)).2⟩) (by simpa using hl)
    exact q
  | i :: is, _, _, _, r, s, .od a b c d n t, R, hi, hp, hl => by
    have i0 := hi i List.mem_cons_self
    have f0 := hp _ List.mem_cons_self
    have q := Rel.setAll (is := is) (r := r.set i (.od _)) (s := s.set i (some _)) t (R.setOd b c f0.2 (fun j _ => f0.1 j) d i0) (fun j hj => by rw [List.length_set]; exact hi j (List.mem_cons_of_mem _ hj))
      (fun p m => ⟨free_ol i0 (fun z => n (z ▸ m)) (hp p (List.mem_cons_of_mem _ m)).1, (hp p (List.mem_cons_of_mem _ m)).2⟩) (by simpa using hl)
    exact q
end
def fParX (is : List Nat) (fs : Rho → R (List Sl)) (r : Rho) : R Fl := (fs r).bnd fun ss => if decide (ss.length = is.length) && is.all (fun i => decide (i < r.length)) then .ok (.nx (setAll is ss r)) else .stuck
section
variable {X : Cx} {E : WX} {pos : Pos} {x y z : Str} {a b c : Expr} {fs : Rho → R (List Sl)} {px py pz pt : Pos} {kt k2 : Nat} {pt2 : Pos}
end
section
variable {X : Cx} {E : WX} {a b : Expr} {fa fb : Rho → R D} {pos : Pos}
end
def gNames (is : List Nat) : TGs := fun vs s H Q => vs.length = is.length ∧ Q (putAll is vs s) H
section
variable {X : Cx} {E : WX} {pos pt pt2 : Pos} {tg : Expr} {tgs es : List Expr} {fs : Rho → R (List Sl)} {kt k2 : Nat}
theorem gx_nil : PGs X [] (gNames []) := pgs_imp pgs_nil fun vs s H Q ⟨l, q⟩ => by
  cases vs with
  | nil => exact ⟨rfl, q⟩
  | cons _ _ => cases l
theorem gx_cons (i : Nat) {is : List Nat} {x : Str} (hN : X.N.Nodup) (h : PGs X tgs (gNames is)) (hi : X.N[i]? = some x := by rfl) (hx : Loc X.env.scope x := by first | exact Or.inl rfl | exact Or.inr rfl) (hf : X.fn x = true ∨ X.env.scope.names.lookup x = some .local := by first | exact .inl rfl | exact .inr rfl | assumption)
    (hs : (assignEach (.Name x pos :: tgs) X.env).map (·.2) = assign (.Name x pos) X.env :: (assignEach tgs X.env).map (·.2) := by rfl) : PGs X (.Name x pos :: tgs) (gNames (i :: is)) :=
  pgs_imp (pgs_cons (pg_name hN hi hx hf) h hs) fun vs s H Q ⟨l, q⟩ => by
    cases vs with
    | nil => cases l
    | cons v vs => exact ⟨v, vs, rfl, by simpa using l, q⟩
theorem ss_asgX {is : List Nat} (hc : X.calm = true) (ha : EX X E es fs) (hg : PGs X tgs (gNames is)) (hn : (assignEach tgs X.env).length = is.length := by rfl) (hst : (assignEach tgs X.env).findIdx? (·.1) = none := by rfl)
    (hs : swapsWithSole [.Tuple tgs kt pt] (.Tuple es k2 pt2) pos.line X.env = pure false := by rfl) (hw : swappedStores [.Tuple tgs kt pt] (.Tuple es k2 pt2) X.env = pure none := by rfl)
    (h1 : (assignEach [.Tuple tgs kt pt] X.env).map (·.2) = [assign (.Tuple tgs kt pt) X.env] := by rfl) (hlt : (is.all fun i => decide (i < X.N.length)) = true := by rfl) : SS X E (.Assign [.Tuple tgs kt pt] (.Tuple es k2 pt2) pos) (fun r => if decide (is.length ≤ 100) then fParX is fs r else .stuck) :=
  ps_impL (ps_asg (pe_tup ha) (pg_tup hc hg hn hst) hs hw h1) fun Z s H sl ⟨T, R, h⟩ => by
    cases el : decide (is.length ≤ 100) with
    | false => rw [el] at h; exact h.elim
    | true =>
      simp only [el, if_true] at h
      refine ⟨T, R, KS.bnd h fun ss G1 H1 _ eg eh R1 h1 vs ps rs => ?_⟩
      cases e : (decide (ss.length = is.length) && is.all (fun i => decide (i < T.r.length))) with
      | false => rw [e] at h1; exact h1.elim
      | true =>
        rw [e] at h1
        rw [Bool.and_eq_true] at e
        have l1 := of_decide_eq_true e.1
        have lv : ∀ {vs : List V} {ss : List Sl} {ps : List Addr}, RpS X.K H G1 H1 vs ss ps → vs.length = ss.length := by
          intro vs ss ps q
          induction q with
          | nil => rfl
          | im _ _ ih => rw [List.length_cons, List.length_cons, ih]
          | ol _ _ _ _ _ _ ih => rw [List.length_cons, List.length_cons, ih]
          | od _ _ _ _ _ _ ih => rw [List.length_cons, List.length_cons, ih]
        have lw := (lv rs).trans l1
        refine ⟨by rw [lw]; have := of_decide_eq_true el; rw [sizeLine_eq]; omega, fun p hp => ⟨p, vs, rfl, SqT.of upd_same, lw, lw, ?_⟩⟩
        have rs2 : ∀ {vs : List V} {ss : List Sl} {ps : List Addr}, RpS X.K H G1 H1 vs ss ps → RpS X.K H G1 (upd H1 p (.tup vs)) vs ss ps → True := fun _ _ => trivial
        have up : ∀ {o : HO} {vs : List V} {ss : List Sl} {ps : List Addr}, RpS X.K H G1 H1 vs ss ps → RpS X.K H G1 (upd H1 p o) vs ss ps := by
          intro o vs ss ps q
          induction q with
          | nil => exact .nil
          | im a _ ih => exact .im a ih
          | ol a b c d n _ ih => exact .ol a (by rw [upd_ne (ne_of_none b hp)]; exact b) c d n ih
          | od a b c d n _ ih => exact .od a (by rw [upd_ne (ne_of_none b hp)]; exact b) c d n ih
        refine h1 _ G1 _ (Same.refl _) (Rel.setAll (up rs) (R1.lay hp) (fun i hi => by rw [sl]; exact of_decide_eq_true (List.all_eq_true.mp hlt i hi)) (fun q hq => ⟨fun k o => ?_, R.hh.free (rs.none q hq)⟩) l1.symm)
        obtain ⟨⟨u, z⟩, _⟩ := own_in R o
        rw [rs.none q hq] at z
        cases z
end
end PL
end
section
namespace PL
open PySem PySem.Spec PyProof.Rows L2
abbrev TupF := Str × List He.Dv
inductive Xf where
  | tup (t : TupF) | errs (cs xs : List Str)
def Xf.ok (K : PySem.W.Frag) : Xf → Bool
  | .tup t => He.tupB K t.1 t.2
  | .errs cs xs => errB cs xs K
def tupsB (ts : List Xf) (K : PySem.W.Frag) : Bool := ts.all (Xf.ok K)
def obsM (n : Nat) (fa : List He.Fa) (fn : List He.DefD) (ts : List Xf) (g : Addr → Option Obj) : Bool × He.AlD :=
  (tupsB ts (He.frG g (He.asD g n)), He.obsDG n fa fn g)
def hookM (n : Nat) (fa : List He.Fa) (fn : List He.DefD) (ts : List Xf) : PySem.W.Hook where
  α := Bool × He.AlD
  obs := fun s => obsM n fa fn ts s.heap.get?
  val := fun _ => (true, He.valD fn)
  says := fun _ h => ∃ K : PySem.W.Frag, K.In h ∧ tupsB ts K = true ∧ He.SaysD fa fn K
  of := fun _ _ e => ⟨_, He.frG_in, congrArg (fun z : Bool × He.AlD => z.1) e, congrArg (fun z : Bool × He.AlD => z.2) e⟩
  keeps := fun _ _ _ ⟨K, hK, c⟩ k => ⟨K, PySem.W.Frag.In.keeps hK k, c⟩
theorem obsM_eq {n : Nat} {fa : List He.Fa} {fn : List He.DefD} {ts : List Xf} {g : Addr → Option Obj} {s : Shared} (h : ∀ a, g a = s.heap.get? a) : obsM n fa fn ts g = (hookM n fa fn ts).obs s := by
  have e : g = s.heap.get? := funext h
  rw [e] <;> rfl
section
variable {K : PySem.W.Frag} {mg : Str → Option Value} {h : Heap}
def dvD : He.Dv → D
  | .int i => .int i
  | .str x => .str x
  | .bl b => .bl b
  | _ => .non
def dvOk : He.Dv → Bool
  | .int _ => true
  | .str _ => true
  | .bl _ => true
  | .non => true
  | _ => false
theorem dvs_ok {G : Hp} : ∀ (vs : List He.Dv), vs.all dvOk = true → RpA K G (vs.map (He.Dv.v K)) (vs.map dvD)
  | [], _ => .nil
  | v :: vs, c => by
    rw [List.all_cons, Bool.and_eq_true] at c
    refine .cons ?_ (dvs_ok vs c.2)
    cases v <;> first | exact .non | exact .bl _ | exact .int _ | exact .str _ | cases c.1
theorem kon_tup (X : K.In h) (G : h.Ns mainGlobals mg) {x : Str} {vs : List He.Dv} {ts : List Xf} (g : (He.Fa.glo x).ok K = true) (t : tupsB ts K = true) (m : Xf.tup (x, vs) ∈ ts) (c : vs.all dvOk = true) : Kon K mg x (.tup (vs.map dvD)) :=
  ⟨_, .ref (He.ga K x), He.glo_ok X G g, rfl, fun G' => .tup (He.tupB_ok (List.all_eq_true.mp t _ m) G') (dvs_ok vs c)⟩
theorem kon_int (X : K.In h) (G : h.Ns mainGlobals mg) {x : Str} {i : Int} (g : (He.Fa.int x i).ok K = true) : Kon K mg x (.int i) := by
  obtain ⟨t, e⟩ := He.int_ok X G g
  exact ⟨_, .int i, e, ⟨t, rfl⟩, fun _ => .int i⟩
theorem kon_str (X : K.In h) (G : h.Ns mainGlobals mg) {x z : Str} (g : (He.Fa.str x z).ok K = true) : Kon K mg x (.str z) := by
  obtain ⟨t, e⟩ := He.str_ok X G g
  exact ⟨_, .str z, e, ⟨t, rfl⟩, fun _ => .str z⟩
theorem err_of (X : K.In h) (G : h.Ns mainGlobals mg) {x : Str} (g : (He.Fa.glo x).ok K = true) (e : (He.Fa.exc x).ok K = true) : ErrC K mg x := by
  obtain ⟨e1, e2, e3, e4⟩ := He.exc_ok e
  exact ⟨_, He.glo_ok X G g, e1, e2, e3, e4⟩
def btNames : List Str := ["len", "isinstance", "range", "tuple", "list", "dict", "zip", "sorted", "all", "any", "enumerate", "set", "str", "abs", "int", "bool", "max", "min", "sum"]
def btFa : List He.Fa := btNames.map .free
theorem bts_of (X : K.In h) (G : h.Ns mainGlobals mg) (c : ∀ f ∈ btFa, He.Fa.ok K f = true) : Bts mg :=
  have c : ∀ x ∈ btNames, (He.Fa.free x).ok K = true := fun x hx => c _ (List.mem_map_of_mem hx)
  { len := He.free_ok X G (c _ (by decide +kernel)),
    isinstance := He.free_ok X G (c _ (by decide +kernel)),
    range := He.free_ok X G (c _ (by decide +kernel)),
    tuple := He.free_ok X G (c _ (by decide +kernel)),
    list := He.free_ok X G (c _ (by decide +kernel)),
    dict := He.free_ok X G (c _ (by decide +kernel)),
    zip := He.free_ok X G (c _ (by decide +kernel)),
    sorted := He.free_ok X G (c _ (by decide +kernel)),
    all := He.free_ok X G (c _ (by decide +kernel)),
    any := He.free_ok X G (c _ (by decide +kernel)),
    enumerate := He.free_ok X G (c _ (by decide +kernel)),
    set := He.free_ok X G (c _ (by decide +kernel)),
    str := He.free_ok X G (c _ (by decide +kernel)),
    abs := He.free_ok X G (c _ (by decide +kernel)),
    int := He.free_ok X G (c _ (by decide +kernel)),
    bool := He.free_ok X G (c _ (by decide +kernel)),
    max := He.free_ok X G (c _ (by decide +kernel)),
    min := He.free_ok X G (c _ (by decide +kernel)),
    sum := He.free_ok X G (c _ (by decide +kernel)) }
theorem facts_of {fa : List He.Fa} {fn : List He.DefD} (c : He.SaysD fa fn K) : ∀ f ∈ fa, He.Fa.ok K f = true := fun f hf => by
  obtain ⟨i, hi⟩ := List.mem_iff_getElem?.mp hf
  exact c.fact i hi
end
def erFa (cs xs : List Str) : List He.Fa := .free "ValueError" :: .glo "BlendError" :: (cs ++ xs).map .glo
theorem errx_of {K : PySem.W.Frag} {mg : Str → Option Value} {h : Heap} {cs xs : List Str} {ts : List Xf} (X : K.In h) (G : h.Ns mainGlobals mg) (c : ∀ f ∈ erFa cs xs, He.Fa.ok K f = true) (t : tupsB ts K = true) (m : Xf.errs cs xs ∈ ts) : ErrX K mg cs xs where
  gl := fun x hx => He.glo_ok X G (c _ (List.mem_cons_of_mem _ (List.mem_cons_of_mem _ (List.mem_map_of_mem hx))))
  bl := He.glo_ok X G (c _ (List.mem_cons_of_mem _ List.mem_cons_self))
  ve := He.free_ok X G (c _ List.mem_cons_self)
  ok := List.all_eq_true.mp t _ m
theorem law_sp {K : PySem.W.Frag} {mg : Str → Option Value} {F : List D → R D} (hl : ∀ ns : List Int, ns.length ≤ 63 → F [.scr ns] = .ok (.bl true)) (H : Hp) (a : Addr) (ns : List Int) (hn : ns.length ≤ 63) (hS : SqL K H a (ns.map V.int)) :
    spF K mg 1 F [.ref a] H (fun v _ => v = .bl true) fun _ _ _ => False := by
  refine ⟨um H, [.scr ns], fun a o q => (um_is q).1, fun a o q => (um_is q).2, .cons (.scr (um_l hS)) .nil, rfl, ?_⟩
  rw [hl ns hn]
  intro v G' H' _ _ _ _ _ r
  cases r
  rfl
theorem walk_ofM {l : PySem.W.OpenLaw} {n k : Nat} {q : Program} {loose : List Str} {XP : (Str → Option Value) → Heap → Prop} {YP : World → Heap → Prop} {d : DefRec} {CX : World → CXT} {x : Str}
    (hn : l.most = some n) (hn2 : n ≤ sizeLine) (hdf : d.params.defaults = []) (hr : Room k callerA)
    (F : ∀ (w : World) (mg : Str → Option Value) (fa : Addr) (h : Heap), YP w h → h.Ns mainGlobals mg → mg d.name = some (.ref fa) →
      ∃ (K : PySem.W.Frag) (fd : FuncData) (sp : Sp), K.In h ∧ (∀ (s : Shared) (u : Value), BindsTo s fd ⟨[u], []⟩ [(x, u)]) ∧
        (∀ (H : Hp) (a : Addr) (ns : List Int), ns.length ≤ n → Only H → SqL K H a (ns.map V.int) → sp [.ref a] H (fun v _ => v = .bl true) fun _ _ _ => False) ∧
        ∀ base : Heap, K.In base → base.Ns mainGlobals mg → FnOk l.prog w K mg base (CX w) k fa fd [x] sp)
    (hCX : ∀ (w : World) (H : Hp) (s : Shared) (e : Value) (s' : Shared), CX w [] H s (fun _ _ _ => False) e s' → False) :
    PySem.W.WalkO q loose XP YP l.row.toRowW d [] (fun f vs => PySem.call f vs) := by
  refine Att.attach_call hn hdf fun w s₀ s₁ mg mb fa o pm cd doc a vs ns G Y ho hd hcd hmg hobj hints hlen hg => ?_
  obtain ⟨K, fd, sp, KX, hb, hsp, hF⟩ := F w mg fa _ Y G.T.g hmg
  exact law_call KX G.T.g G.T.b G.T.builtins G.T.nolimit hg hobj hints (Nat.le_trans hlen hn2) hr hF hb (fun H hO hS => hsp H a ns hlen hO hS) fun H e s' => hCX w H s₁ e s'
theorem cx_false {P : Program} {w : World} (H : Hp) (s : Shared) (e : Value) (s' : Shared) (h : L2.CX P w [] H s (fun _ _ _ => False) e s') : False := by
  obtain ⟨_, _, _, _, _, _, _, _, _, _, _, _, z⟩ := h
  exact z
end PL
end
section
namespace PL
open PySem PySem.Spec PyProof.Rows L2
theorem map3 {α β γ δ : Type} {e : Option α} {f1 : α → β} {f2 : α → γ} {f3 : α → δ} {a : β} {b : γ} {c : δ} (h1 : e.map f1 = some a) (h2 : e.map f2 = some b) (h3 : e.map f3 = some c) : e.map (fun s => (f1 s, f2 s, f3 s)) = some (a, b, c) := by
  cases e with
  | none => cases h1
  | some s =>
    have e1 : f1 s = a := Option.some.inj h1
    have e2 : f2 s = b := Option.some.inj h2
    have e3 : f3 s = c := Option.some.inj h3
    show some (f1 s, f2 s, f3 s) = _
    rw [e1, e2, e3]
theorem obs_cat {α : Type} {e : Option α} {n : Nat} {fa1 fa2 : List He.Fa} {fn1 fn2 : List He.DefD} {ts : List Xf} {g : α → Addr → Option Obj}
    (h1 : e.map (fun s => obsM n fa1 fn1 ts (g s)) = some (true, He.valD fn1)) (h2 : e.map (fun s => obsM n fa2 fn2 [] (g s)) = some (true, He.valD fn2)) :
    e.map (fun s => obsM n (fa1 ++ fa2) (fn1 ++ fn2) ts (g s)) = some (true, He.valD (fn1 ++ fn2)) := by
  cases e with
  | none => cases h1
  | some s =>
    have e1 : obsM n fa1 fn1 ts (g s) = (true, He.valD fn1) := Option.some.inj h1
    have e2 : obsM n fa2 fn2 [] (g s) = (true, He.valD fn2) := Option.some.inj h2
    have a1 : tupsB ts (He.frG (g s) (He.asD (g s) n)) = true := congrArg (fun z : Bool × He.AlD => z.1) e1
    have b1 : He.obsD fa1 fn1 (He.frG (g s) (He.asD (g s) n)) = He.valD fn1 := congrArg (fun z : Bool × He.AlD => z.2) e1
    have b2 : He.obsD fa2 fn2 (He.frG (g s) (He.asD (g s) n)) = He.valD fn2 := congrArg (fun z : Bool × He.AlD => z.2) e2
    refine congrArg some (Prod.ext a1 ?_)
    show He.obsD (fa1 ++ fa2) (fn1 ++ fn2) (He.frG (g s) (He.asD (g s) n)) = He.valD (fn1 ++ fn2)
    generalize He.frG (g s) (He.asD (g s) n) = K at b1 b2
    have c1 := congrArg (fun z : He.AlD => z.1) b1
    have c2 := congrArg (fun z : He.AlD => z.1) b2
    have d1 := congrArg (fun z : He.AlD => z.2) b1
    have d2 := congrArg (fun z : He.AlD => z.2) b2
    have c1' : ((fa1.all fun f => f.ok K) && fn1.all fun d => d.ok K) = true := c1
    have c2' : ((fa2.all fun f => f.ok K) && fn2.all fun d => d.ok K) = true := c2
    have d1' : fn1.map (fun d => He.fnW K d.at_) = fn1.map He.DefD.val := d1
    have d2' : fn2.map (fun d => He.fnW K d.at_) = fn2.map He.DefD.val := d2
    obtain ⟨p1, p2⟩ := Bool.and_eq_true_iff.mp c1'
    obtain ⟨q1, q2⟩ := Bool.and_eq_true_iff.mp c2'
    refine Prod.ext ?_ ?_
    · show (((fa1 ++ fa2).all fun f => f.ok K) && (fn1 ++ fn2).all fun d => d.ok K) = true
      rw [List.all_append, List.all_append, p1, p2, q1, q2]
      rfl
    · show (fn1 ++ fn2).map (fun d => He.fnW K d.at_) = (fn1 ++ fn2).map He.DefD.val
      rw [List.map_append, List.map_append, d1', d2']
end PL
end
section
open PySem PySem.Spec PyProof.Rows L2
namespace PL.W50
def inC (s : Stmt) (i : Nat) : Stmt := (match s with
  | .ClassDef _ _ _ b _ _ _ _ _ _ _ => b
  | _ => []).getD i (.Pass ⟨0, 0, 0, 0⟩)
def ecs : List Str := [(Str.ofString "NoBook"), (Str.ofString "NoRow"), (Str.ofString "NoBoard"), (Str.ofString "NoStand"), (Str.ofString "NoShares"), (Str.ofString "NoLayer"), (Str.ofString "NoPlan"), (Str.ofString "NoNumber"), (Str.ofString "NoWay"), (Str.ofString "NoText")]
def exs : List Str := [(Str.ofString "NoBook"), (Str.ofString "NoRow"), (Str.ofString "NoBoard"), (Str.ofString "NoStand"), (Str.ofString "NoShares"), (Str.ofString "NoLayer"), (Str.ofString "NoPlan"), (Str.ofString "NoNumber"), (Str.ofString "NoWay"), (Str.ofString "NoText"), (Str.ofString "BlendError")]
def topS (i : Nat) : Stmt := PySem.Challenge.pw_blendstands_k50_whole_movers.main.body.getD i (.Pass ⟨0, 0, 0, 0⟩)
abbrev s_is_whole : Stmt := topS 15
abbrev s_greatest_in : Stmt := topS 16
abbrev s_is_less : Stmt := topS 23
abbrev s_is_name : Stmt := topS 29
abbrev s_stand_in : Stmt := topS 35
abbrev s_is_way : Stmt := topS 44
abbrev s_Mover_o_time : Stmt := inC (topS 46) 4
abbrev s_Mover_o_goal : Stmt := inC (topS 46) 7
abbrev s_u_law_cell : Stmt := topS 48
abbrev s_u_law_word : Stmt := topS 50
abbrev s_u_law_low : Stmt := topS 51
abbrev s_u_law_names : Stmt := topS 54
abbrev s_share : Stmt := topS 17
abbrev s_is_fraction : Stmt := topS 18
abbrev s_is_stand : Stmt := topS 30
abbrev s_has_name : Stmt := topS 33
abbrev s_u_law_pick : Stmt := topS 49
abbrev s_u_law_sum : Stmt := topS 52
abbrev s_u_law_eased : Stmt := topS 61
abbrev s_u_law_less : Stmt := topS 62
abbrev s_plus : Stmt := topS 19
abbrev s_minus : Stmt := topS 20
abbrev s_times : Stmt := topS 21
abbrev s_parted : Stmt := topS 22
abbrev s_is_book : Stmt := topS 31
abbrev s_look_name : Stmt := topS 34
abbrev s_is_time : Stmt := topS 43
abbrev s_u_law_book : Stmt := topS 53
abbrev s_u_law_shares : Stmt := topS 55
abbrev s_u_law_gathered : Stmt := topS 56
abbrev s_u_law_worths : Stmt := topS 58
abbrev s_u_law_time : Stmt := topS 59
abbrev s_u_law_call : Stmt := topS 60
abbrev s_summed : Stmt := topS 24
abbrev s_look_book : Stmt := topS 32
abbrev s_gathered : Stmt := topS 39
abbrev s_eased : Stmt := topS 45
abbrev s_Mover_o_part : Stmt := inC (topS 46) 1
abbrev s_Mover_o_go_on : Stmt := inC (topS 46) 3
abbrev s_Mover_o_left : Stmt := inC (topS 46) 8
abbrev s_u_law_led : Stmt := topS 57
abbrev s_are_shares_in : Stmt := topS 36
abbrev s_worths_of : Stmt := topS 38
abbrev s_led_over : Stmt := topS 40
abbrev s_Mover_o_u__init_u_ : Stmt := inC (topS 46) 0
abbrev s_are_shares : Stmt := topS 37
abbrev s_Mover_o_shares : Stmt := inC (topS 46) 5
abbrev s_Mover_o_call : Stmt := inC (topS 46) 2
abbrev s_Mover_o_worths : Stmt := inC (topS 46) 6
abbrev s_u_law_do : Stmt := topS 63
abbrev s_u_law_do_r : Stmt := topS 63
abbrev s_u_law_refuses : Stmt := topS 64
abbrev s_law : Stmt := topS 65
end PL.W50
end
section
open PySem PySem.Spec PyProof.Rows L2 PySem.W PySem.Calls
namespace PL.W50
def dd_is_whole : He.DefD := ⟨((Str.ofString "is_whole"), none), (Str.ofString "is_whole"), (Str.ofString "is_whole"), defArgs s_is_whole, defBody s_is_whole, defScope s_is_whole, [], []⟩
def dd_greatest_in : He.DefD := ⟨((Str.ofString "greatest_in"), none), (Str.ofString "greatest_in"), (Str.ofString "greatest_in"), defArgs s_greatest_in, defBody s_greatest_in, defScope s_greatest_in, [], []⟩
def dd_is_less : He.DefD := ⟨((Str.ofString "is_less"), none), (Str.ofString "is_less"), (Str.ofString "is_less"), defArgs s_is_less, defBody s_is_less, defScope s_is_less, [], []⟩
def dd_is_name : He.DefD := ⟨((Str.ofString "is_name"), none), (Str.ofString "is_name"), (Str.ofString "is_name"), defArgs s_is_name, defBody s_is_name, defScope s_is_name, [], []⟩
def dd_stand_in : He.DefD := ⟨((Str.ofString "stand_in"), none), (Str.ofString "stand_in"), (Str.ofString "stand_in"), defArgs s_stand_in, defBody s_stand_in, defScope s_stand_in, [], []⟩
def dd_is_way : He.DefD := ⟨((Str.ofString "is_way"), none), (Str.ofString "is_way"), (Str.ofString "is_way"), defArgs s_is_way, defBody s_is_way, defScope s_is_way, [], []⟩
def dd_Mover_o_time : He.DefD := ⟨((Str.ofString "Mover"), some (Str.ofString "time")), (Str.ofString "time"), (Str.ofString "Mover.time"), defArgs s_Mover_o_time, defBody s_Mover_o_time, defScope s_Mover_o_time, [], []⟩
def dd_Mover_o_goal : He.DefD := ⟨((Str.ofString "Mover"), some (Str.ofString "goal")), (Str.ofString "goal"), (Str.ofString "Mover.goal"), defArgs s_Mover_o_goal, defBody s_Mover_o_goal, defScope s_Mover_o_goal, [], []⟩
def dd_u_law_cell : He.DefD := ⟨((Str.ofString "_law_cell"), none), (Str.ofString "_law_cell"), (Str.ofString "_law_cell"), defArgs s_u_law_cell, defBody s_u_law_cell, defScope s_u_law_cell, [], []⟩
def dd_u_law_word : He.DefD := ⟨((Str.ofString "_law_word"), none), (Str.ofString "_law_word"), (Str.ofString "_law_word"), defArgs s_u_law_word, defBody s_u_law_word, defScope s_u_law_word, [], []⟩
def dd_u_law_low : He.DefD := ⟨((Str.ofString "_law_low"), none), (Str.ofString "_law_low"), (Str.ofString "_law_low"), defArgs s_u_law_low, defBody s_u_law_low, defScope s_u_law_low, [], []⟩
def dd_u_law_names : He.DefD := ⟨((Str.ofString "_law_names"), none), (Str.ofString "_law_names"), (Str.ofString "_law_names"), defArgs s_u_law_names, defBody s_u_law_names, defScope s_u_law_names, [], []⟩
def dd_share : He.DefD := ⟨((Str.ofString "share"), none), (Str.ofString "share"), (Str.ofString "share"), defArgs s_share, defBody s_share, defScope s_share, [], []⟩
def dd_is_fraction : He.DefD := ⟨((Str.ofString "is_fraction"), none), (Str.ofString "is_fraction"), (Str.ofString "is_fraction"), defArgs s_is_fraction, defBody s_is_fraction, defScope s_is_fraction, [], []⟩
def dd_is_stand : He.DefD := ⟨((Str.ofString "is_stand"), none), (Str.ofString "is_stand"), (Str.ofString "is_stand"), defArgs s_is_stand, defBody s_is_stand, defScope s_is_stand, [], []⟩
def dd_has_name : He.DefD := ⟨((Str.ofString "has_name"), none), (Str.ofString "has_name"), (Str.ofString "has_name"), defArgs s_has_name, defBody s_has_name, defScope s_has_name, [], []⟩
def dd_u_law_pick : He.DefD := ⟨((Str.ofString "_law_pick"), none), (Str.ofString "_law_pick"), (Str.ofString "_law_pick"), defArgs s_u_law_pick, defBody s_u_law_pick, defScope s_u_law_pick, [], []⟩
def dd_u_law_sum : He.DefD := ⟨((Str.ofString "_law_sum"), none), (Str.ofString "_law_sum"), (Str.ofString "_law_sum"), defArgs s_u_law_sum, defBody s_u_law_sum, defScope s_u_law_sum, [], []⟩
def dd_u_law_eased : He.DefD := ⟨((Str.ofString "_law_eased"), none), (Str.ofString "_law_eased"), (Str.ofString "_law_eased"), defArgs s_u_law_eased, defBody s_u_law_eased, defScope s_u_law_eased, [], []⟩
def dd_u_law_less : He.DefD := ⟨((Str.ofString "_law_less"), none), (Str.ofString "_law_less"), (Str.ofString "_law_less"), defArgs s_u_law_less, defBody s_u_law_less, defScope s_u_law_less, [], []⟩
def dd_plus : He.DefD := ⟨((Str.ofString "plus"), none), (Str.ofString "plus"), (Str.ofString "plus"), defArgs s_plus, defBody s_plus, defScope s_plus, [], []⟩
def dd_minus : He.DefD := ⟨((Str.ofString "minus"), none), (Str.ofString "minus"), (Str.ofString "minus"), defArgs s_minus, defBody s_minus, defScope s_minus, [], []⟩
def dd_times : He.DefD := ⟨((Str.ofString "times"), none), (Str.ofString "times"), (Str.ofString "times"), defArgs s_times, defBody s_times, defScope s_times, [], []⟩
def dd_parted : He.DefD := ⟨((Str.ofString "parted"), none), (Str.ofString "parted"), (Str.ofString "parted"), defArgs s_parted, defBody s_parted, defScope s_parted, [], []⟩
def dd_is_book : He.DefD := ⟨((Str.ofString "is_book"), none), (Str.ofString "is_book"), (Str.ofString "is_book"), defArgs s_is_book, defBody s_is_book, defScope s_is_book, [], []⟩
def dd_look_name : He.DefD := ⟨((Str.ofString "look_name"), none), (Str.ofString "look_name"), (Str.ofString "look_name"), defArgs s_look_name, defBody s_look_name, defScope s_look_name, [], []⟩
def dd_is_time : He.DefD := ⟨((Str.ofString "is_time"), none), (Str.ofString "is_time"), (Str.ofString "is_time"), defArgs s_is_time, defBody s_is_time, defScope s_is_time, [], []⟩
def dd_u_law_book : He.DefD := ⟨((Str.ofString "_law_book"), none), (Str.ofString "_law_book"), (Str.ofString "_law_book"), defArgs s_u_law_book, defBody s_u_law_book, defScope s_u_law_book, [], []⟩
def dd_u_law_shares : He.DefD := ⟨((Str.ofString "_law_shares"), none), (Str.ofString "_law_shares"), (Str.ofString "_law_shares"), defArgs s_u_law_shares, defBody s_u_law_shares, defScope s_u_law_shares, [], []⟩
def dd_u_law_gathered : He.DefD := ⟨((Str.ofString "_law_gathered"), none), (Str.ofString "_law_gathered"), (Str.ofString "_law_gathered"), defArgs s_u_law_gathered, defBody s_u_law_gathered, defScope s_u_law_gathered, [], []⟩
def dd_u_law_worths : He.DefD := ⟨((Str.ofString "_law_worths"), none), (Str.ofString "_law_worths"), (Str.ofString "_law_worths"), defArgs s_u_law_worths, defBody s_u_law_worths, defScope s_u_law_worths, [], []⟩
def dd_u_law_time : He.DefD := ⟨((Str.ofString "_law_time"), none), (Str.ofString "_law_time"), (Str.ofString "_law_time"), defArgs s_u_law_time, defBody s_u_law_time, defScope s_u_law_time, [], []⟩
def dd_u_law_call : He.DefD := ⟨((Str.ofString "_law_call"), none), (Str.ofString "_law_call"), (Str.ofString "_law_call"), defArgs s_u_law_call, defBody s_u_law_call, defScope s_u_law_call, [], []⟩
def dd_summed : He.DefD := ⟨((Str.ofString "summed"), none), (Str.ofString "summed"), (Str.ofString "summed"), defArgs s_summed, defBody s_summed, defScope s_summed, [], []⟩
def dd_look_book : He.DefD := ⟨((Str.ofString "look_book"), none), (Str.ofString "look_book"), (Str.ofString "look_book"), defArgs s_look_book, defBody s_look_book, defScope s_look_book, [], []⟩
def dd_gathered : He.DefD := ⟨((Str.ofString "gathered"), none), (Str.ofString "gathered"), (Str.ofString "gathered"), defArgs s_gathered, defBody s_gathered, defScope s_gathered, [], []⟩
def dd_eased : He.DefD := ⟨((Str.ofString "eased"), none), (Str.ofString "eased"), (Str.ofString "eased"), defArgs s_eased, defBody s_eased, defScope s_eased, [], []⟩
def dd_Mover_o_part : He.DefD := ⟨((Str.ofString "Mover"), some (Str.ofString "part")), (Str.ofString "part"), (Str.ofString "Mover.part"), defArgs s_Mover_o_part, defBody s_Mover_o_part, defScope s_Mover_o_part, [], []⟩
def dd_Mover_o_go_on : He.DefD := ⟨((Str.ofString "Mover"), some (Str.ofString "go_on")), (Str.ofString "go_on"), (Str.ofString "Mover.go_on"), defArgs s_Mover_o_go_on, defBody s_Mover_o_go_on, defScope s_Mover_o_go_on, [], []⟩
def dd_Mover_o_left : He.DefD := ⟨((Str.ofString "Mover"), some (Str.ofString "left")), (Str.ofString "left"), (Str.ofString "Mover.left"), defArgs s_Mover_o_left, defBody s_Mover_o_left, defScope s_Mover_o_left, [], []⟩
def dd_u_law_led : He.DefD := ⟨((Str.ofString "_law_led"), none), (Str.ofString "_law_led"), (Str.ofString "_law_led"), defArgs s_u_law_led, defBody s_u_law_led, defScope s_u_law_led, [], []⟩
def dd_are_shares_in : He.DefD := ⟨((Str.ofString "are_shares_in"), none), (Str.ofString "are_shares_in"), (Str.ofString "are_shares_in"), defArgs s_are_shares_in, defBody s_are_shares_in, defScope s_are_shares_in, [], []⟩
def dd_worths_of : He.DefD := ⟨((Str.ofString "worths_of"), none), (Str.ofString "worths_of"), (Str.ofString "worths_of"), defArgs s_worths_of, defBody s_worths_of, defScope s_worths_of, [], []⟩
def dd_led_over : He.DefD := ⟨((Str.ofString "led_over"), none), (Str.ofString "led_over"), (Str.ofString "led_over"), defArgs s_led_over, defBody s_led_over, defScope s_led_over, [], []⟩
def dd_Mover_o_u__init_u_ : He.DefD := ⟨((Str.ofString "Mover"), some (Str.ofString "__init__")), (Str.ofString "__init__"), (Str.ofString "Mover.__init__"), defArgs s_Mover_o_u__init_u_, defBody s_Mover_o_u__init_u_, defScope s_Mover_o_u__init_u_, [], []⟩
def dd_are_shares : He.DefD := ⟨((Str.ofString "are_shares"), none), (Str.ofString "are_shares"), (Str.ofString "are_shares"), defArgs s_are_shares, defBody s_are_shares, defScope s_are_shares, [], []⟩
def dd_Mover_o_shares : He.DefD := ⟨((Str.ofString "Mover"), some (Str.ofString "shares")), (Str.ofString "shares"), (Str.ofString "Mover.shares"), defArgs s_Mover_o_shares, defBody s_Mover_o_shares, defScope s_Mover_o_shares, [], []⟩
def dd_Mover_o_call : He.DefD := ⟨((Str.ofString "Mover"), some (Str.ofString "call")), (Str.ofString "call"), (Str.ofString "Mover.call"), defArgs s_Mover_o_call, defBody s_Mover_o_call, defScope s_Mover_o_call, [], []⟩
def dd_Mover_o_worths : He.DefD := ⟨((Str.ofString "Mover"), some (Str.ofString "worths")), (Str.ofString "worths"), (Str.ofString "Mover.worths"), defArgs s_Mover_o_worths, defBody s_Mover_o_worths, defScope s_Mover_o_worths, [], []⟩
def dd_u_law_do : He.DefD := ⟨((Str.ofString "_law_do"), none), (Str.ofString "_law_do"), (Str.ofString "_law_do"), defArgs s_u_law_do, defBody s_u_law_do, defScope s_u_law_do, [], []⟩
def dd_u_law_refuses : He.DefD := ⟨((Str.ofString "_law_refuses"), none), (Str.ofString "_law_refuses"), (Str.ofString "_law_refuses"), defArgs s_u_law_refuses, defBody s_u_law_refuses, defScope s_u_law_refuses, [], []⟩
def dd_law : He.DefD := ⟨((Str.ofString "law"), none), (Str.ofString "law"), (Str.ofString "law"), defArgs s_law, defBody s_law, defScope s_law, [], []⟩
def fns : List He.DefD := [dd_is_whole, dd_greatest_in, dd_is_less, dd_is_name, dd_stand_in, dd_is_way, dd_Mover_o_time, dd_Mover_o_goal, dd_u_law_cell, dd_u_law_word, dd_u_law_low, dd_u_law_names, dd_share, dd_is_fraction, dd_is_stand, dd_has_name, dd_u_law_pick, dd_u_law_sum, dd_u_law_eased, dd_u_law_less, dd_plus, dd_minus, dd_times, dd_parted, dd_is_book, dd_look_name, dd_is_time, dd_u_law_book, dd_u_law_shares, dd_u_law_gathered, dd_u_law_worths, dd_u_law_time, dd_u_law_call, dd_summed, dd_look_book, dd_gathered, dd_eased, dd_Mover_o_part, dd_Mover_o_go_on, dd_Mover_o_left, dd_u_law_led, dd_are_shares_in, dd_worths_of, dd_led_over, dd_Mover_o_u__init_u_, dd_are_shares, dd_Mover_o_shares, dd_Mover_o_call, dd_Mover_o_worths, dd_u_law_do, dd_u_law_refuses, dd_law]
def fas0 : List He.Fa := [.glo (Str.ofString "is_whole"), .glo (Str.ofString "greatest_in"), .glo (Str.ofString "is_less"), .glo (Str.ofString "is_name"), .glo (Str.ofString "stand_in"), .glo (Str.ofString "is_way"), .meth (Str.ofString "Mover") (Str.ofString "time"), .meth (Str.ofString "Mover") (Str.ofString "goal"), .glo (Str.ofString "_law_cell"), .glo (Str.ofString "_law_word"), .glo (Str.ofString "_law_low"), .glo (Str.ofString "_law_names"), .glo (Str.ofString "share"), .glo (Str.ofString "is_fraction"), .glo (Str.ofString "is_stand"), .glo (Str.ofString "has_name"), .glo (Str.ofString "_law_pick"), .glo (Str.ofString "_law_sum"), .glo (Str.ofString "_law_eased"), .glo (Str.ofString "_law_less"), .glo (Str.ofString "plus"), .glo (Str.ofString "minus"), .glo (Str.ofString "times"), .glo (Str.ofString "parted"), .glo (Str.ofString "is_book"), .glo (Str.ofString "look_name"), .glo (Str.ofString "is_time"), .glo (Str.ofString "_law_book"), .glo (Str.ofString "_law_shares"), .glo (Str.ofString "_law_gathered"), .glo (Str.ofString "_law_worths"), .glo (Str.ofString "_law_time"), .glo (Str.ofString "_law_call"), .glo (Str.ofString "summed"), .glo (Str.ofString "look_book"), .glo (Str.ofString "gathered"), .glo (Str.ofString "eased"), .meth (Str.ofString "Mover") (Str.ofString "part"), .meth (Str.ofString "Mover") (Str.ofString "go_on"), .meth (Str.ofString "Mover") (Str.ofString "left"), .glo (Str.ofString "_law_led"), .glo (Str.ofString "are_shares_in"), .glo (Str.ofString "worths_of"), .glo (Str.ofString "led_over"), .mkr (Str.ofString "Mover"), .glo (Str.ofString "are_shares"), .meth (Str.ofString "Mover") (Str.ofString "shares"), .meth (Str.ofString "Mover") (Str.ofString "call"), .meth (Str.ofString "Mover") (Str.ofString "worths"), .glo (Str.ofString "_law_do"), .glo (Str.ofString "_law_refuses"), .glo (Str.ofString "law"), .glo (Str.ofString "Mover"), .cls (Str.ofString "Mover"), .noat (Str.ofString "Mover") (Str.ofString "begun"), .noat (Str.ofString "Mover") (Str.ofString "end"), .noat (Str.ofString "Mover") (Str.ofString "known"), .noat (Str.ofString "Mover") (Str.ofString "long"), .noat (Str.ofString "Mover") (Str.ofString "now"), .noat (Str.ofString "Mover") (Str.ofString "start"), .noat (Str.ofString "Mover") (Str.ofString "way"), .glo (Str.ofString "NoBook"), .exc (Str.ofString "NoBook"), .glo (Str.ofString "NoNumber"), .exc (Str.ofString "NoNumber"), .glo (Str.ofString "NoStand"), .exc (Str.ofString "NoStand"), .glo (Str.ofString "NoWay"), .exc (Str.ofString "NoWay"), .int (Str.ofString "FARTHEST") 999, .int (Str.ofString "LONGEST") 6, .glo (Str.ofString "NOUGHT"), .glo (Str.ofString "ONE"), .str (Str.ofString "SMALL") (Str.ofString "abcdefghijklmnopqrstuvwxyz"), .glo (Str.ofString "WAYS")]
def fas : List He.Fa := fas0 ++ (btFa ++ erFa ecs exs)
def tups : List Xf := [.tup ((Str.ofString "NOUGHT"), [.int 0, .int 1]), .tup ((Str.ofString "ONE"), [.int 1, .int 1]), .tup ((Str.ofString "WAYS"), [.str (Str.ofString "even"), .str (Str.ofString "soft")]), .errs ecs exs]
def lset : List Str := ([(Str.ofString "BlendError"), (Str.ofString "NoBook"), (Str.ofString "NoRow"), (Str.ofString "NoBoard"), (Str.ofString "NoStand"), (Str.ofString "NoShares"), (Str.ofString "NoLayer"), (Str.ofString "NoPlan"), (Str.ofString "NoNumber"), (Str.ofString "NoWay"), (Str.ofString "NoText"), (Str.ofString "NOUGHT"), (Str.ofString "ONE"), (Str.ofString "is_whole"), (Str.ofString "greatest_in"), (Str.ofString "share"), (Str.ofString "is_fraction"), (Str.ofString "plus"), (Str.ofString "minus"), (Str.ofString "times"), (Str.ofString "parted"), (Str.ofString "is_less"), (Str.ofString "summed"), (Str.ofString "LONGEST"), (Str.ofString "SMALL"), (Str.ofString "FARTHEST"), (Str.ofString "is_name"), (Str.ofString "is_stand"), (Str.ofString "is_book"), (Str.ofString "look_book")] : List Str) ++ ([(Str.ofString "has_name"), (Str.ofString "look_name"), (Str.ofString "stand_in"), (Str.ofString "are_shares_in"), (Str.ofString "are_shares"), (Str.ofString "worths_of"), (Str.ofString "gathered"), (Str.ofString "led_over"), (Str.ofString "WAYS"), (Str.ofString "is_time"), (Str.ofString "is_way"), (Str.ofString "eased"), (Str.ofString "Mover"), (Str.ofString "_law_cell"), (Str.ofString "_law_pick"), (Str.ofString "_law_word"), (Str.ofString "_law_low"), (Str.ofString "_law_sum"), (Str.ofString "_law_book"), (Str.ofString "_law_names"), (Str.ofString "_law_shares"), (Str.ofString "_law_gathered"), (Str.ofString "_law_led"), (Str.ofString "_law_worths"), (Str.ofString "_law_time"), (Str.ofString "_law_call"), (Str.ofString "_law_eased"), (Str.ofString "_law_less"), (Str.ofString "_law_do"), (Str.ofString "_law_refuses")] : List Str)
abbrev Rw : PySem.W.OpenRow := PySem.W.OpenLaw.row PySem.Challenge.rw_blendstands_k50_whole_movers
abbrev hk : PySem.W.Hook := hookM 4 fas fns tups
def ob (s : PySem.W.SharedT) : Bool × He.AlD := obsM 4 fas fns tups (HandSHeadRun.getT s)
theorem ob_eq (s : PySem.W.SharedT) : ob s = hk.obs s.abs := obsM_eq (HandSHeadRun.getT_eq s)
abbrev vw : Program := PySem.W.view Rw.prog [65]
theorem run1 (w : World) (os : OsState) : (HandSHeadRun.endF (HandSHeadRun.stepQ (HandSHeadRun.denQ HandSHeadRun.tabQ) Rw.prog w) 6000 Rw.prog w os).map (fun s => HandSHeadRun.looksF Rw.prog (boot_heap w.params) s.abs) = some true := by
  kernel_rfl
theorem run2 (w : World) (os : OsState) : (HandSHeadRun.endF (HandSHeadRun.stepQ (HandSHeadRun.denQ HandSHeadRun.tabQ) Rw.prog w) 6000 Rw.prog w os).map (fun s => HandSHeadRun.seenQ vw lset (importedModules Rw.prog.main.body) (fun s => xlAt vw [] s && recOk Rw.toRowW.records s) s.abs) = some (openGood vw lset) := by
  kernel_rfl
theorem run3a (w : World) (os : OsState) : (HandSHeadRun.endF (HandSHeadRun.stepQ (HandSHeadRun.denQ HandSHeadRun.tabQ) Rw.prog w) 6000 Rw.prog w os).map (fun s => obsM 4 (fas.take 37) (fns.take 26) tups (HandSHeadRun.getT s)) = some (true, He.valD (fns.take 26)) := by
  kernel_rfl
theorem run3b (w : World) (os : OsState) : (HandSHeadRun.endF (HandSHeadRun.stepQ (HandSHeadRun.denQ HandSHeadRun.tabQ) Rw.prog w) 6000 Rw.prog w os).map (fun s => obsM 4 (fas.drop 37) (fns.drop 26) [] (HandSHeadRun.getT s)) = some (true, He.valD (fns.drop 26)) := by
  kernel_rfl
theorem run3 (w : World) (os : OsState) : (HandSHeadRun.endF (HandSHeadRun.stepQ (HandSHeadRun.denQ HandSHeadRun.tabQ) Rw.prog w) 6000 Rw.prog w os).map (fun s => ob s) = some (hk.val w) := by
  have e := obs_cat (run3a w os) (run3b w os)
  rw [List.take_append_drop, List.take_append_drop] at e
  exact e
theorem run (w : World) : HandSHeadRun.RunEq Rw (PySem.W.view Rw.prog [65]) hk ob 6000 lset w := fun os => map3 (run1 w os) (run2 w os) (run3 w os)
end PL.W50
end
section
open PySem PySem.Spec PyProof.Rows L2
namespace PL.G
def d_NOUGHT : D := (.tup [(.int 0), (.int 1)])
def d_ONE : D := (.tup [(.int 1), (.int 1)])
def d_LONGEST : D := (.int 6)
def d_SMALL : D := (.str (Str.ofString "abcdefghijklmnopqrstuvwxyz"))
def d_FARTHEST : D := (.int 999)
def d_WAYS : D := (.tup [(.str (Str.ofString "even")), (.str (Str.ofString "soft"))])
noncomputable def B_u_law_names : Rho → R Fl := (fRet (fL (fLc [1, 2] (.tp [(.nm 1), (.nm 2)]) (fIt true (fVar 0)) (fun _ => .ok true) (fVar 1))))
noncomputable def F_u_law_names : List D → R D := runF B_u_law_names 3
noncomputable def B_is_less : Rho → R Fl := (fRet (fBin ltD (fBin mulD (fBin ixD (fVar 0) (fK (.int 0))) (fBin ixD (fVar 1) (fK (.int 1)))) (fBin mulD (fBin ixD (fVar 1) (fK (.int 0))) (fBin ixD (fVar 0) (fK (.int 1))))))
noncomputable def F_is_less : List D → R D := runF B_is_less 2
noncomputable def B_is_way : Rho → R Fl := (fRet (fAndV (fIsi ["str"] (fVar 0)) (fBin (inG false) (fVar 0) (fK d_WAYS))))
noncomputable def F_is_way : List D → R D := runF B_is_way 1
noncomputable def B_stand_in : Rho → R Fl := (fRet (fBin ixD (fL (fLc [2, 3] (.tp [(.nm 2), (.nm 3)]) (fIt true (fVar 0)) (fTest (fBin eqD (fVar 2) (fVar 1))) (fVar 3))) (fK (.int 0))))
noncomputable def F_stand_in : List D → R D := runF B_stand_in 4
noncomputable def B_is_name : Rho → R Fl := (fRet (fAndV (fIsi ["str"] (fVar 0)) (fAndV (fChain leD leD (fK (.int 1)) (fCallB lenD (fConsB (fVar 0) fNil)) (fK d_LONGEST)) (fCallB (allD fun bs => bs.all id) (fConsB (fL (fLc [1] (.nm 1) (fIt true (fVar 0)) (fun _ => .ok true) (fBin (inG false) (fVar 1) (fK d_SMALL)))) fNil)))))
noncomputable def F_is_name : List D → R D := runF B_is_name 2
def m_u_law_low : Rho → Nat := mAbs 3
noncomputable def B_u_law_low : Rho → R Fl := (fSeq (fPar 2 3 (fCons (fCallB absD (fConsB (fVar 0) fNil)) (fCons (fCallB absD (fConsB (fVar 1) fNil)) fNil)))
    (fSeq (fWh m_u_law_low (fTest (fBin neD (fVar 3) (fK (.int 0)))) (fPar 2 3 (fCons (fVar 3) (fCons (fBin modI (fVar 2) (fVar 3)) fNil))))
    (fRet (fIf (fTest (fBin gtI (fVar 1) (fK (.int 0)))) (fTup (fCons (fBin fdivI (fVar 0) (fVar 2)) (fCons (fBin fdivI (fVar 1) (fVar 2)) fNil))) (fTup (fCons (fBin subI (fK (.int 0)) (fBin fdivI (fVar 0) (fVar 2))) (fCons (fBin subI (fK (.int 0)) (fBin fdivI (fVar 1) (fVar 2))) fNil)))))))
noncomputable def F_u_law_low : List D → R D := runF B_u_law_low 4
def m_greatest_in : Rho → Nat := mAbs 1
noncomputable def B_greatest_in : Rho → R Fl := (fSeq (fWh m_greatest_in (fTest (fBin neD (fVar 1) (fK (.int 0)))) (fPar 0 1 (fCons (fVar 1) (fCons (fBin modI (fVar 0) (fVar 1)) fNil))))
    (fRet (fCallB absD (fConsB (fVar 0) fNil))))
noncomputable def F_greatest_in : List D → R D := runF B_greatest_in 2
noncomputable def B_is_whole : Rho → R Fl := (fRet (fAndV (fIsi ["int"] (fVar 0)) (fAndV (fNotV (fIsi ["bool"] (fVar 0))) (fChain leD leD (fVar 1) (fVar 0) (fVar 2)))))
noncomputable def F_is_whole : List D → R D := runF B_is_whole 3
noncomputable def B_u_law_cell : Rho → R Fl := (fSeq (fIfS (fTest (fBin ltD (fVar 1) (fCallB lenD (fConsB (fVar 0) fNil)))) (fRet (fBin ixD (fVar 0) (fVar 1))) fNx)
    (fSeq (fIfS (fTest (fBin eqD (fVar 0) (fL (fLst fNil)))) (fRet (fK (.int 0))) fNx)
    (fRet (fBin addD (fBin mulD (fBin ixD (fVar 0) (fBin modI (fVar 1) (fCallB lenD (fConsB (fVar 0) fNil)))) (fK (.int 31))) (fVar 1)))))
noncomputable def F_u_law_cell : List D → R D := runF B_u_law_cell 2
noncomputable def B_is_stand : Rho → R Fl := (fSeq (fIfS (fOr (fNot (fTest (fIsi ["tuple"] (fVar 0)))) (fNot (fTest (fChain leD leD (fK (.int 1)) (fCallB lenD (fConsB (fVar 0) fNil)) (fK (.int 4)))))) (fRet (fK (.bl false))) fNx)
    (fRet (fCallB (allD fun bs => bs.all id) (fConsB (fL (fLc [1] (.nm 1) (fIt true (fVar 0)) (fun _ => .ok true) (fCall 3 F_is_whole (fCons (fVar 1) (fCons (fBin subI (fK (.int 0)) (fK d_FARTHEST)) (fCons (fK d_FARTHEST) fNil)))))) fNil))))
noncomputable def F_is_stand : List D → R D := runF B_is_stand 2
noncomputable def B_u_law_less : Rho → R Fl := (fRet (fCall 2 F_u_law_low (fCons (fBin subI (fBin mulD (fBin ixD (fVar 0) (fK (.int 0))) (fBin ixD (fVar 1) (fK (.int 1)))) (fBin mulD (fBin ixD (fVar 1) (fK (.int 0))) (fBin ixD (fVar 0) (fK (.int 1))))) (fCons (fBin mulD (fBin ixD (fVar 0) (fK (.int 1))) (fBin ixD (fVar 1) (fK (.int 1)))) fNil))))
noncomputable def F_u_law_less : List D → R D := runF B_u_law_less 2
noncomputable def B_u_law_pick : Rho → R Fl := (fSeq (fAsg (.nm 3) (fBin modI (fBin mulD (fBin addD (fCall 2 F_u_law_cell (fCons (fVar 0) (fCons (fVar 1) fNil))) (fBin mulD (fK (.int 6151)) (fBin addD (fVar 1) (fK (.int 1))))) (fK (.int 40692))) (fK (.int 2147483399))))
    (fRet (fBin modI (fBin modI (fBin addD (fBin mulD (fVar 3) (fVar 3)) (fBin fdivI (fVar 3) (fK (.int 31)))) (fK (.int 2147483629))) (fVar 2))))
noncomputable def F_u_law_pick : List D → R D := runF B_u_law_pick 4
noncomputable def B_u_law_sum : Rho → R Fl := (fSeq (fAsg (.tp [(.nm 2), (.nm 3)]) (fTup (fCons (fK (.int 0)) (fCons (fK (.int 1)) fNil))))
    (fSeq (fFor (.nm 1) (fIt false (fVar 0)) (fPar 2 3 (fCons (fBin addD (fBin mulD (fVar 2) (fBin ixD (fVar 1) (fK (.int 1)))) (fBin mulD (fBin ixD (fVar 1) (fK (.int 0))) (fVar 3))) (fCons (fBin mulD (fVar 3) (fBin ixD (fVar 1) (fK (.int 1)))) fNil))))
    (fRet (fCall 2 F_u_law_low (fCons (fVar 2) (fCons (fVar 3) fNil))))))
noncomputable def F_u_law_sum : List D → R D := runF B_u_law_sum 4
noncomputable def B_share : Rho → R Fl := (fSeq (fAsg (.nm 2) (fCall 2 F_greatest_in (fCons (fVar 0) (fCons (fVar 1) fNil))))
    (fRet (fIf (fTest (fBin gtI (fVar 1) (fK (.int 0)))) (fTup (fCons (fBin fdivI (fVar 0) (fVar 2)) (fCons (fBin fdivI (fVar 1) (fVar 2)) fNil))) (fTup (fCons (fBin subI (fK (.int 0)) (fBin fdivI (fVar 0) (fVar 2))) (fCons (fBin subI (fK (.int 0)) (fBin fdivI (fVar 1) (fVar 2))) fNil))))))
noncomputable def F_share : List D → R D := runF B_share 3
noncomputable def B_has_name : Rho → R Fl := (fRet (fAndV (fCall 1 F_is_name (fCons (fVar 1) fNil)) (fBin (inG false) (fVar 1) (fL (fLc [2] (.nm 2) (fIt true (fVar 0)) (fun _ => .ok true) (fBin ixD (fVar 2) (fK (.int 0))))))))
noncomputable def F_has_name : List D → R D := runF B_has_name 3
noncomputable def B_is_fraction : Rho → R Fl := (fSeq (fIfS (fOr (fNot (fTest (fIsi ["tuple"] (fVar 0)))) (fTest (fBin neD (fCallB lenD (fConsB (fVar 0) fNil)) (fK (.int 2))))) (fRet (fK (.bl false))) fNx)
    (fSeq (fIfS (fNot (fTest (fCallB (allD fun bs => bs.all id) (fConsB (fL (fLc [1] (.nm 1) (fIt true (fVar 0)) (fun _ => .ok true) (fAndV (fIsi ["int"] (fVar 1)) (fNotV (fIsi ["bool"] (fVar 1)))))) fNil)))) (fRet (fK (.bl false))) fNx)
    (fRet (fAndV (fBin gtI (fBin ixD (fVar 0) (fK (.int 1))) (fK (.int 0))) (fBin eqD (fCall 2 F_greatest_in (fCons (fBin ixD (fVar 0) (fK (.int 0))) (fCons (fBin ixD (fVar 0) (fK (.int 1))) fNil))) (fK (.int 1)))))))
noncomputable def F_is_fraction : List D → R D := runF B_is_fraction 2
noncomputable def B_is_time : Rho → R Fl := (fRet (fAndV (fCall 1 F_is_fraction (fCons (fVar 0) fNil)) (fBin geI (fBin ixD (fVar 0) (fK (.int 0))) (fK (.int 0)))))
noncomputable def F_is_time : List D → R D := runF B_is_time 1
noncomputable def B_u_law_shares : Rho → R Fl := (fSeq (fAsg (.nm 3) (fL (fLc [5, 6] (.tp [(.nm 5), (.nm 6)]) (fEnum true (fConsB (fCall 1 F_u_law_names (fCons (fVar 2) fNil)) fNil)) (fun _ => .ok true) (fTup (fCons (fVar 6) (fCons (fCall 3 F_u_law_pick (fCons (fVar 0) (fCons (fBin addD (fVar 1) (fVar 5)) (fCons (fK (.int 5)) fNil)))) fNil))))))
    (fSeq (fAsg (.nm 4) (fCallB sumD (fConsB (fL (fLc [6, 7] (.tp [(.nm 6), (.nm 7)]) (fIt true (fVar 3)) (fun _ => .ok true) (fVar 7))) fNil)))
    (fSeq (fIfS (fTest (fBin eqD (fVar 4) (fK (.int 0)))) (fRet (fL (fLst (fCons (fTup (fCons (fBin ixD (fCall 1 F_u_law_names (fCons (fVar 2) fNil)) (fCall 3 F_u_law_pick (fCons (fVar 0) (fCons (fBin addD (fVar 1) (fK (.int 8))) (fCons (fCallB lenD (fConsB (fVar 2) fNil)) fNil))))) (fCons (fTup (fCons (fK (.int 1)) (fCons (fK (.int 1)) fNil))) fNil))) fNil)))) fNx)
    (fRet (fL (fLc [6, 7] (.tp [(.nm 6), (.nm 7)]) (fIt true (fVar 3)) (fTest (fBin gtI (fVar 7) (fK (.int 0)))) (fTup (fCons (fVar 6) (fCons (fCall 2 F_u_law_low (fCons (fVar 7) (fCons (fVar 4) fNil))) fNil)))))))))
noncomputable def F_u_law_shares : List D → R D := runF B_u_law_shares 8
noncomputable def B_u_law_gathered : Rho → R Fl := (fSeq (fAsgN 1 (fLst fNil))
    (fSeq (fFor (.nm 2) (fIt false (fL (fSortSet (fL (fLc [4, 5] (.tp [(.nm 4), (.nm 5)]) (fIt true (fVar 0)) (fun _ => .ok true) (fVar 4)))))) (fSeq (fAsg (.nm 3) (fCall 1 F_u_law_sum (fCons (fL (fLc [4, 5] (.tp [(.nm 4), (.nm 5)]) (fIt true (fVar 0)) (fTest (fBin eqD (fVar 4) (fVar 2))) (fVar 5))) fNil)))
    (fExt 1 (fIf (fTest (fBin neD (fVar 3) (fTup (fCons (fK (.int 0)) (fCons (fK (.int 1)) fNil))))) (fL (fLst (fCons (fTup (fCons (fVar 2) (fCons (fVar 3) fNil))) fNil))) (fL (fLst fNil))))))
    (fRet (fVar 1))))
noncomputable def F_u_law_gathered : List D → R D := runF B_u_law_gathered 6
noncomputable def B_times : Rho → R Fl := (fRet (fCall 2 F_share (fCons (fBin mulD (fBin ixD (fVar 0) (fK (.int 0))) (fBin ixD (fVar 1) (fK (.int 0)))) (fCons (fBin mulD (fBin ixD (fVar 0) (fK (.int 1))) (fBin ixD (fVar 1) (fK (.int 1)))) fNil))))
noncomputable def F_times : List D → R D := runF B_times 2
noncomputable def B_look_name : Rho → R Fl := (fIfS (fNot (fTest (fCall 2 F_has_name (fCons (fVar 0) (fCons (fVar 1) fNil))))) (fun _ => .err (Str.ofString "NoStand")) fNx)
noncomputable def F_look_name : List D → R D := runF B_look_name 2
noncomputable def B_u_law_call : Rho → R Fl := (fSeq (fPar 5 6 (fCons (fBin ixD (fBin ixD (fVar 2) (fCall 3 F_u_law_pick (fCons (fVar 0) (fCons (fVar 1) (fCons (fCallB lenD (fConsB (fVar 2) fNil)) fNil))))) (fK (.int 0))) (fCons (fBin ixD (fL (fLst (fCons (fK (.str (Str.ofString "even"))) (fCons (fK (.str (Str.ofString "soft"))) fNil)))) (fCall 3 F_u_law_pick (fCons (fVar 0) (fCons (fBin addD (fVar 1) (fK (.int 4))) (fCons (fK (.int 2)) fNil))))) fNil)))
    (fSeq (fAsg (.nm 3) (fBin ixD (fL (fLst (fCons (fK (.int 1)) (fCons (fK (.int 12)) (fCons (fK (.int 40)) (fCons (fK (.int 40)) fNil)))))) (fCall 3 F_u_law_pick (fCons (fVar 0) (fCons (fBin addD (fVar 1) (fK (.int 2))) (fCons (fK (.int 4)) fNil))))))
    (fSeq (fAsg (.nm 4) (fCall 2 F_u_law_low (fCons (fCall 3 F_u_law_pick (fCons (fVar 0) (fCons (fBin addD (fVar 1) (fK (.int 1))) (fCons (fVar 3) fNil)))) (fCons (fBin addD (fK (.int 1)) (fCall 3 F_u_law_pick (fCons (fVar 0) (fCons (fBin addD (fVar 1) (fK (.int 3))) (fCons (fK (.int 3)) fNil))))) fNil))))
    (fRet (fTup (fCons (fVar 5) (fCons (fVar 4) (fCons (fVar 6) fNil))))))))
noncomputable def F_u_law_call : List D → R D := runF B_u_law_call 7
noncomputable def B_is_book : Rho → R Fl := (fSeq (fIfS (fOr (fNot (fTest (fIsi ["tuple"] (fVar 0)))) (fNot (fTest (fChain leD leD (fK (.int 1)) (fCallB lenD (fConsB (fVar 0) fNil)) (fK (.int 6)))))) (fRet (fK (.bl false))) fNx)
    (fSeq (fIfS (fNot (fTest (fCallB (allD fun bs => bs.all id) (fConsB (fL (fLc [1] (.nm 1) (fIt true (fVar 0)) (fun _ => .ok true) (fAndV (fIsi ["tuple"] (fVar 1)) (fAndV (fBin eqD (fCallB lenD (fConsB (fVar 1) fNil)) (fK (.int 2))) (fAndV (fCall 1 F_is_name (fCons (fBin ixD (fVar 1) (fK (.int 0))) fNil)) (fCall 1 F_is_stand (fCons (fBin ixD (fVar 1) (fK (.int 1))) fNil))))))) fNil)))) (fRet (fK (.bl false))) fNx)
    (fSeq (fIfS (fTest (fCallB (allD fun bs => bs.any id) (fConsB (fL (fLc [1] (.nm 1) (fIt true (fVar 0)) (fun _ => .ok true) (fBin neD (fCallB lenD (fConsB (fBin ixD (fVar 1) (fK (.int 1))) fNil)) (fCallB lenD (fConsB (fBin ixD (fBin ixD (fVar 0) (fK (.int 0))) (fK (.int 1))) fNil))))) fNil))) (fRet (fK (.bl false))) fNx)
    (fRet (fCallB (allD fun bs => bs.all id) (fConsB (fL (fLc [1, 2] (.tp [(.nm 1), (.nm 2)]) (fZip true (fConsB (fVar 0) (fConsB (fSl (fVar 0) (fun r => ((fK (.int 1)) r).bnd intOf) (fun _ => .ok none)) fNil))) (fun _ => .ok true) (fBin ltD (fBin ixD (fVar 1) (fK (.int 0))) (fBin ixD (fVar 2) (fK (.int 0)))))) fNil))))))
noncomputable def F_is_book : List D → R D := runF B_is_book 3
noncomputable def B_u_law_book : Rho → R Fl := (fSeq (fAsg (.nm 2) (fBin addD (fK (.int 1)) (fCall 3 F_u_law_pick (fCons (fVar 0) (fCons (fVar 1) (fCons (fK (.int 4)) fNil))))))
    (fSeq (fAsg (.nm 3) (fL (fLst (fCons (fK (.str (Str.ofString "a"))) (fCons (fK (.str (Str.ofString "idle"))) (fCons (fK (.str (Str.ofString "run"))) (fCons (fK (.str (Str.ofString "walk"))) (fCons (fK (.str (Str.ofString "z"))) (fCons (fK (.str (Str.ofString "zeal"))) fNil)))))))))
    (fSeq (fAsg (.nm 4) (fL (fLc [6, 7] (.tp [(.nm 6), (.nm 7)]) (fEnum true (fConsB (fVar 3) fNil)) (fTest (fBin gtI (fCall 3 F_u_law_pick (fCons (fVar 0) (fCons (fBin addD (fBin addD (fVar 1) (fK (.int 1))) (fVar 6)) (fCons (fK (.int 3)) fNil)))) (fK (.int 0)))) (fVar 7))))
    (fSeq (fAsgN 5 (fLst fNil))
    (fSeq (fFor (.tp [(.nm 6), (.nm 7)]) (fEnum false (fConsB (fIf (fTest (fBin neD (fVar 4) (fL (fLst fNil)))) (fVar 4) (fL (fLst (fCons (fK (.str (Str.ofString "sole"))) fNil)))) fNil)) (fSeq (fAsg (.nm 8) (fBin ixD (fL (fLst (fCons (fK (.int 3)) (fCons (fK (.int 20)) (fCons (fK (.int 1000)) fNil))))) (fCall 3 F_u_law_pick (fCons (fVar 0) (fCons (fBin addD (fBin addD (fVar 1) (fK (.int 10))) (fVar 6)) (fCons (fK (.int 3)) fNil))))))
    (fSeq (fAsg (.nm 9) (fBin addD (fBin addD (fVar 1) (fK (.int 20))) (fBin mulD (fK (.int 4)) (fVar 6))))
    (fApp 5 (fTup (fCons (fVar 7) (fCons (fCallB tupleD (fConsB (fL (fLc [10] (.nm 10) (fRg rangeD1 (fCons (fVar 2) fNil)) (fun _ => .ok true) (fBin addD (fBin subI (fCall 3 F_u_law_pick (fCons (fVar 0) (fCons (fBin addD (fVar 9) (fVar 10)) (fCons (fBin subI (fBin mulD (fK (.int 2)) (fVar 8)) (fK (.int 1))) fNil)))) (fVar 8)) (fK (.int 1))))) fNil)) fNil)))))))
    (fRet (fCallB tupleD (fConsB (fVar 5) fNil))))))))
noncomputable def F_u_law_book : List D → R D := runF B_u_law_book 11
noncomputable def B_plus : Rho → R Fl := (fRet (fCall 2 F_share (fCons (fBin addD (fBin mulD (fBin ixD (fVar 0) (fK (.int 0))) (fBin ixD (fVar 1) (fK (.int 1)))) (fBin mulD (fBin ixD (fVar 1) (fK (.int 0))) (fBin ixD (fVar 0) (fK (.int 1))))) (fCons (fBin mulD (fBin ixD (fVar 0) (fK (.int 1))) (fBin ixD (fVar 1) (fK (.int 1)))) fNil))))
noncomputable def F_plus : List D → R D := runF B_plus 2
noncomputable def B_minus : Rho → R Fl := (fRet (fCall 2 F_share (fCons (fBin subI (fBin mulD (fBin ixD (fVar 0) (fK (.int 0))) (fBin ixD (fVar 1) (fK (.int 1)))) (fBin mulD (fBin ixD (fVar 1) (fK (.int 0))) (fBin ixD (fVar 0) (fK (.int 1))))) (fCons (fBin mulD (fBin ixD (fVar 0) (fK (.int 1))) (fBin ixD (fVar 1) (fK (.int 1)))) fNil))))
noncomputable def F_minus : List D → R D := runF B_minus 2
noncomputable def B_u_law_time : Rho → R Fl := (fSeq (fAsg (.nm 2) (fBin ixD (fL (fLst (fCons (fK (.int 1)) (fCons (fK (.int 1)) (fCons (fK (.int 2)) (fCons (fK (.int 3)) fNil)))))) (fCall 3 F_u_law_pick (fCons (fVar 0) (fCons (fVar 1) (fCons (fK (.int 4)) fNil))))))
    (fRet (fCall 2 F_u_law_low (fCons (fCall 3 F_u_law_pick (fCons (fVar 0) (fCons (fBin addD (fVar 1) (fK (.int 1))) (fCons (fBin ixD (fL (fLst (fCons (fK (.int 1)) (fCons (fK (.int 4)) (fCons (fK (.int 13)) fNil))))) (fCall 3 F_u_law_pick (fCons (fVar 0) (fCons (fBin addD (fVar 1) (fK (.int 2))) (fCons (fK (.int 3)) fNil))))) fNil)))) (fCons (fVar 2) fNil)))))
noncomputable def F_u_law_time : List D → R D := runF B_u_law_time 3
noncomputable def B_u_law_worths : Rho → R Fl := (fSeq (fun r => if decide ([3, 4].length ≤ 100) then fParX [3, 4] (fConsI (fCallB dictD (fConsB (fVar 0) fNil)) (fConsO (fLst fNil) (fun _ => .ok []))) r else .stuck)
    (fSeq (fFor (.nm 2) (fRg rangeD1 (fCons (fCallB lenD (fConsB (fBin ixD (fBin ixD (fWk (fVar 0)) (fK (.int 0))) (fK (.int 1))) fNil)) fNil)) (fApp 4 (fCall 1 F_u_law_sum (fCons (fL (fLc [5, 6] (.tp [(.nm 5), (.nm 6)]) (fIt true (fVar 1)) (fun _ => .ok true) (fTup (fCons (fBin mulD (fBin ixD (fVar 6) (fK (.int 0))) (fBin ixD (fDGet (fDV 3) (fVar 5)) (fVar 2))) (fCons (fBin ixD (fVar 6) (fK (.int 1))) fNil))))) fNil))))
    (fRet (fCallB tupleD (fConsB (fVar 4) fNil)))))
noncomputable def F_u_law_worths : List D → R D := runF B_u_law_worths 7
noncomputable def B_parted : Rho → R Fl := (fRet (fCall 2 F_share (fCons (fBin mulD (fBin ixD (fVar 0) (fK (.int 0))) (fBin ixD (fVar 1) (fK (.int 1)))) (fCons (fBin mulD (fBin ixD (fVar 0) (fK (.int 1))) (fBin ixD (fVar 1) (fK (.int 0)))) fNil))))
noncomputable def F_parted : List D → R D := runF B_parted 2
noncomputable def B_u_law_led : Rho → R Fl := (fSeq (fAsg (.nm 3) (fTup (fCons (fBin subI (fBin ixD (fVar 2) (fK (.int 1))) (fBin ixD (fVar 2) (fK (.int 0)))) (fCons (fBin ixD (fVar 2) (fK (.int 1))) fNil))))
    (fSeq (fAsg (.nm 4) (fL (fLc [5, 6] (.tp [(.nm 5), (.nm 6)]) (fIt true (fVar 0)) (fun _ => .ok true) (fTup (fCons (fVar 5) (fCons (fCall 2 F_u_law_low (fCons (fBin mulD (fBin ixD (fVar 6) (fK (.int 0))) (fBin ixD (fVar 3) (fK (.int 0)))) (fCons (fBin mulD (fBin ixD (fVar 6) (fK (.int 1))) (fBin ixD (fVar 3) (fK (.int 1)))) fNil))) fNil))))))
    (fRet (fCall 1 F_u_law_gathered (fCons (fBin addD (fVar 4) (fL (fLc [5, 6] (.tp [(.nm 5), (.nm 6)]) (fIt true (fVar 1)) (fun _ => .ok true) (fTup (fCons (fVar 5) (fCons (fCall 2 F_u_law_low (fCons (fBin mulD (fBin ixD (fVar 6) (fK (.int 0))) (fBin ixD (fVar 2) (fK (.int 0)))) (fCons (fBin mulD (fBin ixD (fVar 6) (fK (.int 1))) (fBin ixD (fVar 2) (fK (.int 1)))) fNil))) fNil)))))) fNil)))))
noncomputable def F_u_law_led : List D → R D := runF B_u_law_led 7
noncomputable def B_eased : Rho → R Fl := (fSeq (fIfS (fTest (fBin eqD (fVar 0) (fK (.str (Str.ofString "even"))))) (fRet (fVar 1)) fNx)
    (fRet (fCall 2 F_times (fCons (fCall 2 F_times (fCons (fVar 1) (fCons (fVar 1) fNil))) (fCons (fCall 2 F_minus (fCons (fTup (fCons (fK (.int 3)) (fCons (fK (.int 1)) fNil))) (fCons (fCall 2 F_plus (fCons (fVar 1) (fCons (fVar 1) fNil))) fNil))) fNil)))))
noncomputable def F_eased : List D → R D := runF B_eased 2
noncomputable def B_summed : Rho → R Fl := (fSeq (fAsg (.nm 1) (fK d_NOUGHT))
    (fSeq (fFor (.nm 2) (fIt false (fVar 0)) (fAsg (.nm 1) (fCall 2 F_plus (fCons (fVar 1) (fCons (fVar 2) fNil)))))
    (fRet (fVar 1))))
noncomputable def F_summed : List D → R D := runF B_summed 3
noncomputable def B_look_book : Rho → R Fl := (fIfS (fNot (fTest (fCall 1 F_is_book (fCons (fVar 0) fNil)))) (fun _ => .err (Str.ofString "NoBook")) fNx)
noncomputable def F_look_book : List D → R D := runF B_look_book 1
noncomputable def B_gathered : Rho → R Fl := (fSeq (fDNew 1)
    (fSeq (fFor (.tp [(.nm 2), (.nm 3)]) (fIt false (fVar 0)) (fDPut 1 (fVar 2) (fCall 2 F_plus (fCons (fDGet2 (fDV 1) (fVar 2) (fK d_NOUGHT)) (fCons (fVar 3) fNil)))))
    (fRet (fL (fLc [2] (.nm 2) (fIt true (fL (fCallB sortTD (fConsB (fL (fCallB listKD (fConsB (fDV 1) fNil))) fNil)))) (fTest (fBin neD (fDGet (fDV 1) (fVar 2)) (fK d_NOUGHT))) (fTup (fCons (fVar 2) (fCons (fDGet (fDV 1) (fVar 2)) fNil))))))))
noncomputable def F_gathered : List D → R D := runF B_gathered 4
noncomputable def B_led_over : Rho → R Fl := (fSeq (fAsg (.nm 3) (fCall 2 F_minus (fCons (fK d_ONE) (fCons (fVar 2) fNil))))
    (fSeq (fAsg (.nm 4) (fL (fLc [5, 6] (.tp [(.nm 5), (.nm 6)]) (fIt true (fVar 0)) (fun _ => .ok true) (fTup (fCons (fVar 5) (fCons (fCall 2 F_times (fCons (fVar 6) (fCons (fVar 3) fNil))) fNil))))))
    (fRet (fCall 1 F_gathered (fCons (fBin addD (fVar 4) (fL (fLc [5, 6] (.tp [(.nm 5), (.nm 6)]) (fIt true (fVar 1)) (fun _ => .ok true) (fTup (fCons (fVar 5) (fCons (fCall 2 F_times (fCons (fVar 6) (fCons (fVar 2) fNil))) fNil)))))) fNil)))))
noncomputable def F_led_over : List D → R D := runF B_led_over 7
noncomputable def B_are_shares_in : Rho → R Fl := (fSeq (fIfS (fNot (fTest (fIsi ["list", "tuple"] (fVar 1)))) (fRet (fK (.bl false))) fNx)
    (fSeq (fFor (.nm 2) (fIt false (fVar 1)) (fSeq (fIfS (fOr (fNot (fTest (fIsi ["tuple"] (fVar 2)))) (fOr (fTest (fBin neD (fCallB lenD (fConsB (fVar 2) fNil)) (fK (.int 2)))) (fNot (fTest (fCall 2 F_has_name (fCons (fVar 0) (fCons (fBin ixD (fVar 2) (fK (.int 0))) fNil))))))) (fRet (fK (.bl false))) fNx)
    (fIfS (fOr (fNot (fTest (fCall 1 F_is_fraction (fCons (fBin ixD (fVar 2) (fK (.int 1))) fNil)))) (fTest (fBin leD (fBin ixD (fBin ixD (fVar 2) (fK (.int 1))) (fK (.int 0))) (fK (.int 0))))) (fRet (fK (.bl false))) fNx)))
    (fSeq (fAsg (.nm 3) (fL (fLc [2] (.nm 2) (fIt true (fVar 1)) (fun _ => .ok true) (fBin ixD (fVar 2) (fK (.int 0))))))
    (fRet (fAndV (fBin eqD (fVar 3) (fL (fSortSet (fVar 3)))) (fBin eqD (fCall 1 F_summed (fCons (fL (fLc [2] (.nm 2) (fIt true (fVar 1)) (fun _ => .ok true) (fBin ixD (fVar 2) (fK (.int 1))))) fNil)) (fK d_ONE)))))))
noncomputable def F_are_shares_in : List D → R D := runF B_are_shares_in 4
noncomputable def B_worths_of : Rho → R Fl := (fSeq (fAsgN 2 (fLst fNil))
    (fSeq (fFor (.nm 3) (fRg rangeD1 (fCons (fCallB lenD (fConsB (fBin ixD (fBin ixD (fVar 0) (fK (.int 0))) (fK (.int 1))) fNil)) fNil)) (fApp 2 (fCall 1 F_summed (fCons (fL (fLc [4, 5] (.tp [(.nm 4), (.nm 5)]) (fIt true (fVar 1)) (fun _ => .ok true) (fCall 2 F_times (fCons (fVar 5) (fCons (fTup (fCons (fBin ixD (fCall 2 F_stand_in (fCons (fVar 0) (fCons (fVar 4) fNil))) (fVar 3)) (fCons (fK (.int 1)) fNil))) fNil))))) fNil))))
    (fRet (fCallB tupleD (fConsB (fVar 2) fNil)))))
noncomputable def F_worths_of : List D → R D := runF B_worths_of 6
noncomputable def B_are_shares : Rho → R Fl := (fSeq (fExpr (fCall 1 F_look_book (fCons (fVar 0) fNil)))
    (fRet (fCall 2 F_are_shares_in (fCons (fVar 0) (fCons (fVar 1) fNil)))))
noncomputable def F_are_shares : List D → R D := runF B_are_shares 2
end PL.G
end
section
namespace PL
open PySem PySem.Spec PyProof.Rows L2
def putFD (f : Str) (d : D) : List (Str × D) → List (Str × D)
  | [] => [(f, d)]
  | (g, x) :: r => if g = f then (g, d) :: r else (g, x) :: putFD f d r
section
variable {K : PySem.W.Frag} {G : Hp}
theorem RpF.length : ∀ {v : List (Str × V)} {d : List (Str × D)}, RpF K G v d → v.length = d.length
  | _, _, .nil => rfl
  | _, _, .cons _ r => by rw [List.length_cons, List.length_cons, r.length]
theorem RpF.look {f : Str} {x : D} : ∀ {v : List (Str × V)} {d : List (Str × D)}, RpF K G v d → d.lookup f = some x → ∃ u, v.lookup f = some u ∧ RpO K G u x
  | _, _, .nil, h => by simp at h
  | _, _, .cons (f := g) (v := u) (d := y) h0 r, h => by
    rw [List.lookup_cons] at h ⊢
    cases e : (f == g) with
    | true =>
      rw [e] at h
      cases h
      exact ⟨u, rfl, h0⟩
    | false =>
      rw [e] at h
      exact r.look h
theorem RpF.lookN {f : Str} : ∀ {v : List (Str × V)} {d : List (Str × D)}, RpF K G v d → d.lookup f = none → v.lookup f = none
  | _, _, .nil, h => rfl
  | _, _, .cons (f := g) h0 r, h => by
    rw [List.lookup_cons] at h ⊢
    cases e : (f == g) with
    | true => rw [e] at h; cases h
    | false =>
      rw [e] at h
      exact r.lookN h
theorem RpF.put {f : Str} {u : V} {x : D} (hx : RpO K G u x) : ∀ {v : List (Str × V)} {d : List (Str × D)}, RpF K G v d → RpF K G (putF f u v) (putFD f x d)
  | _, _, .nil => .cons hx .nil
  | _, _, .cons (f := g) h0 r => by
    unfold putF putFD
    by_cases e : g = f
    · rw [if_pos e, if_pos e]; exact .cons hx r
    · rw [if_neg e, if_neg e]; exact .cons h0 (r.put hx)
end
def flds (c : Str) (r : Rho) : D → Option (Nat × List (Str × D))
  | .obj k => match (stOf r)[k]? with
    | some (.ins c' fs) => if c' = c then some (k, fs) else none
    | _ => none
  | _ => none
theorem flds_ok {K : PySem.W.Frag} {T : Stt} {s : St} {H : Hp} {v : V} {d : D} {c : Str} {k : Nat} {fs : List (Str × D)} (R : Rl K T s H) (rv : RpE K T.G s v d) (h : flds c T.r d = some (k, fs)) :
    d = .obj k ∧ (stOf T.r)[k]? = some (.ins c fs) ∧ ∃ a dx fvs, v = .ref a ∧ T.G a = some (mrk k) ∧ H a = some (.ins (He.ga K c) dx fvs) ∧ RpF K T.G fvs fs ∧ fvs.length < 1000 := by
  cases d with
  | obj j =>
    simp only [flds] at h
    cases e : (stOf T.r)[j]? with
    | none => rw [e] at h; cases h
    | some ob =>
      rw [e] at h
      cases ob with
      | ls ds => cases h
      | tab x q => cases h
      | ins c' fs' =>
        simp only at h
        by_cases ec : c' = c
        · rw [if_pos ec] at h
          cases h
          subst ec
          cases (show RpO K T.G v (.obj k) from rv) with
          | pure h0 => cases h0
          | obj h1 =>
            obtain ⟨dx, fvs, q1, q2, q3⟩ := obj_at R e h1
            exact ⟨rfl, e, _, dx, fvs, rfl, h1, q1, q2, q3⟩
        · rw [if_neg ec] at h; cases h
  | _ => cases h
def fFld (c f : Str) (fa : Rho → R D) (r : Rho) : R D := (fa r).bnd fun d => match flds c r d with
  | some (_, fs) => (match fs.lookup f with
    | some x => .ok x
    | none => .stuck)
  | none => .stuck
section
variable {X : Cx} {E : WX} {a : Expr} {fa : Rho → R D} {pos : Pos} {c f : Str}
theorem ev_fld (hc : Cls X.K (He.ga X.K c)) (hn : NoAttr X.K (He.ga X.K c) f) (ha : EV X E a fa) (hb : attributeBase a f X.env (eval a X.env) = eval a X.env := by rfl) : EV X E (.Attribute a f pos) (fFld c f fa) :=
  pe_imp (pe_fld ha hb) fun s H Q ⟨T, R, h⟩ => ⟨T, R, KE.bnd h fun d G1 H1 _ eg eh R1 h1 v rv => by
    cases e : flds c T.r d with
    | none => rw [e] at h1; exact h1.elim
    | some p =>
      obtain ⟨k, fs⟩ := p
      rw [e] at h1
      obtain ⟨_, _, b, dx, fvs, rfl, _, q1, q2, _⟩ := flds_ok (T := { T with G := G1 }) R1 rv e
      simp only at h1
      cases el : fs.lookup f with
      | none => rw [el] at h1; exact h1.elim
      | some x =>
        rw [el] at h1
        obtain ⟨u, lu, ru⟩ := q2.look el
        exact ⟨b, _, dx, fvs, u, rfl, q1, hc, hn, lu, KE.here (T := { T with G := G1 }) h1 R1 u ru.e⟩⟩
end
def obD : D → R D
  | .own _ => .stuck
  | d => .ok d
theorem obD_ok {d d' : D} (h : obD d = .ok d') : d' = d ∧ ∀ i, d ≠ .own i := by
  cases d with
  | own i => cases h
  | _ => cases h; exact ⟨rfl, fun i z => by cases z⟩
theorem RpE.ob {K : PySem.W.Frag} {G : Hp} {s : St} {v : V} {d : D} (h : ∀ i, d ≠ .own i) (r : RpE K G s v d) : RpO K G v d := by
  cases d with
  | own i => exact absurd rfl (h i)
  | obj i => exact r
  | tpo i => exact r
  | _ => exact .pure r
def tAo (K : PySem.W.Frag) (mg : Str → Option Value) (E : WX) (f : Rho → R (List D)) : TA := fun s H Q => ∃ T, Rl K T s H ∧ KE K mg E T s H (fun ds G' H' => ∀ vs, RpOA K G' vs ds → Q vs H') (f T.r)
def EAo (X : Cx) (E : WX) (e : List Expr) (f : Rho → R (List D)) : Prop := PA X e (tAo X.K X.mg E f)
def fConsA (f : Rho → R D) (fs : Rho → R (List D)) (r : Rho) : R (List D) := (f r).bnd fun d => (obD d).bnd fun d => (fs r).bnd fun ds => .ok (d :: ds)
section
variable {X : Cx} {E : WX} {a : Expr} {es : List Expr} {fa : Rho → R D} {fs : Rho → R (List D)}
theorem eao_nil : EAo X E [] fNil := pa_imp pa_nil fun s H Q ⟨T, R, h⟩ => h.here R [] .nil
theorem eao_cons (ha : EV X E a fa) (hr : EAo X E es fs) (hs : starEach (a :: es) X.env = (false, eval a X.env) :: starEach es X.env := by rfl) : EAo X E (a :: es) (fConsA fa fs) :=
  pa_imp (pa_cons ha hr hs) fun s H Q ⟨T, R, h⟩ => ⟨T, R, KE.bnd h fun d G1 H1 _ eg eh R1 h1 v rv => by
    cases e : obD d with
    | err c => cases d <;> cases e
    | stuck => rw [e] at h1; exact h1.elim
    | ok d' =>
      rw [e] at h1
      obtain ⟨rfl, no⟩ := obD_ok e
      refine ⟨{ T with G := G1 }, R1, KE.bnd (show KE X.K X.mg E { T with G := G1 } s H1 _ ((fs T.r).bnd fun ds => .ok (d' :: ds)) from h1) fun ds G2 H2 _ eg2 eh2 R2 h2 vs rvs => ?_⟩
      exact KE.here h2 R2 _ (.cons ((RpE.ob no rv).mono eg2) rvs)⟩
end
def PostR (K : PySem.W.Frag) (G H : Hp) (d : D) (Q : VK) : Prop := ∀ v G' H', Ex G G' → Ex H H' → Ex (um G') H' → Nw G G' H → Rp K G' v d → Q v H'
def spR (K : PySem.W.Frag) (mg : Str → Option Value) (n : Nat) (F : List Ob → List D → R D) : Sp := fun vs H Q E => ∃ G ds os, Ex (um G) H ∧ (∀ a, H a = none → G a = none) ∧ StOk K H G H false os ∧ RpOA K G vs ds ∧ ds.length = n ∧ (match F os ds with
  | .ok d => PostR K G H d Q
  | .err c => ∀ H', Ex H H' → E (clsV mg c) none H'
  | .stuck => False)
def runR (fb : Rho → R Fl) (n : Nat) (os : List Ob) (ds : List D) : R D := match fb (ds.map .im ++ List.replicate (n - ds.length) .un ++ [.st false os]) with
  | .ok (.nx _) => .ok .non
  | .ok (.rt d) => .ok d
  | .ok _ => .stuck
  | .err c => .err c
  | .stuck => .stuck
theorem rel_startO {K : PySem.W.Frag} {G H0 H : Hp} {N : List Str} {vs : List V} {ds : List D} {w : Bool} {os : List Ob} (hl : vs.length ≤ N.length) (hh : Ex H0 H) (e : Ex (um G) H) (gf : ∀ a, H a = none → G a = none) (r : RpOA K G vs ds) (S : StOk K H0 G H w os) : Rel K G H0 (ds.map .im ++ List.replicate (N.length - ds.length) .un ++ [.st w os]) (start N vs) G H := by
  have len : (start N vs).length = (ds.map Sl.im ++ List.replicate (N.length - ds.length) Sl.un).length := by
    have := r.length
    unfold L2.start
    simp only [List.length_append, List.length_map, List.length_replicate]
    omega
  have tls : ∀ i x, (ds.map Sl.im ++ List.replicate (N.length - ds.length) Sl.un).length ≤ i → (ds.map Sl.im ++ List.replicate (N.length - ds.length) Sl.un ++ [.st w os])[i]? = some x → x = .st w os := fun i x hi hx => by
    rw [List.getElem?_append_right hi] at hx
    have := (List.getElem?_eq_some_iff.mp hx).1
    simp only [List.length_cons, List.length_nil] at this
    rw [show i - (ds.map Sl.im ++ List.replicate (N.length - ds.length) Sl.un).length = 0 by omega] at hx
    simpa using hx.symm
  have slots : ∀ i x, i < (ds.map Sl.im ++ List.replicate (N.length - ds.length) Sl.un).length → (ds.map Sl.im ++ List.replicate (N.length - ds.length) Sl.un ++ [.st w os])[i]? = some x → (∃ d, x = .im d ∧ ds[i]? = some d) ∨ x = .un := fun i x hi hx => by
    rw [List.getElem?_append_left hi] at hx
    by_cases h : i < ds.length
    · rw [List.getElem?_append_left (by rw [List.length_map]; exact h), List.getElem?_map, List.getElem?_eq_getElem h] at hx
      cases hx
      exact .inl ⟨_, rfl, List.getElem?_eq_getElem h⟩
    · rw [List.getElem?_append_right (by rw [List.length_map]; omega), List.getElem?_replicate] at hx
      split at hx
      · cases hx; exact .inr rfl
      · cases hx
  refine ⟨Same.refl _, hh, e, gf, fun a o h n => (by rw [h] at n; cases n), fun i x hx => ?_, fun i j a h1 h2 => ?_, ⟨by rw [len]; simp, by rw [len]; simp; omega, fun i x hx => ?_⟩⟩
  · by_cases h : i < (ds.map Sl.im ++ List.replicate (N.length - ds.length) Sl.un).length
    · rcases slots i x h hx with ⟨d, rfl, hd⟩ | rfl
      · rw [start_get]
        obtain ⟨v, e1, e2⟩ := r.get hd
        exact ⟨v, e1, e2⟩
      · trivial
    · rw [tls i x (by omega) hx]
      exact S
  · exfalso
    obtain ⟨q, _⟩ := h1
    cases hx : (ds.map Sl.im ++ List.replicate (N.length - ds.length) Sl.un ++ [.st w os])[i]? with
    | none => rw [hx] at q; exact q
    | some x =>
      rw [hx] at q
      by_cases h : i < (ds.map Sl.im ++ List.replicate (N.length - ds.length) Sl.un).length
      · rcases slots i x h hx with ⟨d, rfl, _⟩ | rfl
        · exact q
        · exact q
      · rw [tls i x (by omega) hx] at q
        exact q
  · by_cases h : i < (ds.map Sl.im ++ List.replicate (N.length - ds.length) Sl.un).length
    · refine ⟨fun q => ?_, fun q => by omega⟩
      rcases slots i x h hx with ⟨d, rfl, _⟩ | rfl
      · exact q.elim
      · exact q.elim
    · rw [tls i x (by omega) hx]
      exact ⟨fun _ => by omega, fun _ => trivial⟩
theorem strip {K : PySem.W.Frag} {G G' H H' : Hp} {v : V} {d : D} {Q : VK} (h : PostR K G H d Q) (eg : Ex G G') (eh : Ex H H') (gh : Ex (um G') H') (nw : ∀ a o, G' a = some o → G a = none → H a = none) (r : Rp K G' v d) : Q v H' := by
  have e2 : Ex (um G') (gUn G (um G')) := fun a o q => by
    unfold gUn
    cases e : G a with
    | none => exact q
    | some u =>
      show some u = some o
      have z := eg _ _ e
      rw [(um_is q).1] at z
      exact z.symm
  refine h v (gUn G (um G')) H' (gUn_l _ _) eh (fun a o q => ?_) ⟨fun a o q n => ?_, fun a o q m => ?_⟩ (r.um.mono e2)
  · obtain ⟨q, m⟩ := um_is q
    unfold gUn at q
    cases e : G a with
    | some u =>
      rw [e] at q
      cases q
      exact gh _ _ (um_of (eg _ _ e) m)
    | none =>
      rw [e] at q
      exact gh _ _ q
  · unfold gUn at q
    rw [n] at q
    exact nw a o (um_is q).1 n
  · unfold gUn at q
    cases e : G a with
    | some u => rw [e] at q; exact q
    | none =>
      rw [e] at q
      rw [(um_is q).2] at m
      cases m
theorem run_redR {K : PySem.W.Frag} {mg : Str → Option Value} {E : XK} {N : List Str} {vs : List V} {n : Nat} {H : Hp} {Q : VK} {fb : Rho → R Fl} (hl : n ≤ N.length) (h : spR K mg n (runR fb N.length) vs H Q E) : tS K mg (fun cls d _ H => E cls d H) fb { nx := fun _ H' => Q .non H', rt := Q } (start N vs) H := by
  obtain ⟨G, ds, os, e, gf, S, r, hn, h⟩ := h
  refine ⟨⟨G, H, _, G⟩, rel_startO (N := N) (by rw [r.length, hn]; exact hl) (Same.refl _) e gf r S, ?_⟩
  unfold runR at h
  show KS K mg (fun cls d _ H => E cls d H) ⟨G, H, _, G⟩ _ (fb (ds.map .im ++ List.replicate (N.length - ds.length) .un ++ [.st false os]))
  cases e2 : fb (ds.map .im ++ List.replicate (N.length - ds.length) .un ++ [.st false os]) with
  | err c => rw [e2] at h; exact fun _ => h
  | stuck => rw [e2] at h; exact h
  | ok x =>
    rw [e2] at h
    cases x with
    | nx r' => exact fun s' G' H' _ b => strip h b.gg b.hh b.gh b.nw .non
    | bk r' => exact h.elim
    | ct r' => exact h.elim
    | rt d => exact fun v G' H' a b c f n rv => strip h a b c n rv
    | rm d os => exact h.elim
end PL
end
section
namespace PL
open PySem PySem.Spec PyProof.Rows L2
def tMethS (C : Addr) (m : Str) (sp : Sp) (E : St → XK) (ta : TE) (t : TA) : TE := fun σ H Q => ta σ H fun x H1 => ∃ a dx fs, x = .ref a ∧ H1 a = some (.ins C dx fs) ∧ fs.lookup m = none ∧ t σ H1 fun vs H2 => sp (x :: vs) H2 Q (E σ)
section
variable {X : Cx} {CX : CXT} {k : Nat} {f C : Addr} {fd : FuncData} {ps : List Str} {sp : Sp} {E : St → XK} {x m : Str} {p pos apos : Pos} {e o : Expr} {es : List Expr} {ta : TE} {t : TA}
theorem pe_methX {pl : Sem Bool} (he : PE X o ta) (c : Cls X.K C) (hm : Meth X.K C m f) (F : FnOk X.prog X.w X.K X.mg X.base CX k f fd ps sp) (hr : Room k X.A) (hb : Binds X.K fd ps []) (hx : ∀ σ, PassesAt CX X σ (E σ)) (ha : PA X (e :: es) t)
    (hst : starEach (e :: es) X.env = (false, eval e X.env) :: starEach es X.env := by rfl) (hpl : (backTo pos (starEach es X.env)).any (·.1) = false := by rfl)
    (ht : eval (.Call (.Attribute o m apos) (e :: es) [] pos) X.env = (do
      let ov ← eval o X.env
      standAt apos.atName
      let (f, first) ← holding [ov] (getMethod ov m pl)
      callWith pos f first (backTo pos (starEach (e :: es) X.env)) (backToKw pos (keywordEach [] X.env))) := by rfl) :
    PE X (.Call (.Attribute o m apos) (e :: es) [] pos) (tMethS C m sp E ta t) := by
  refine ⟨fun pins s σ H Q I h => ?_⟩
  refine PySem.W.methodCall_KW (pl := pl) (thn (he.run pins s σ H _ I h) fun u s1 ⟨x, H1, I1, rx, a, dx, fs, ex, ea, l, q⟩ => ?_) ht
  subst ex
  obtain rfl : u = Value.ref a := rx
  refine getmeth_ok I1 ea c hm l ?_
  refine PySem.W.callWith_K (first := [.ref a]) (h₀ := X.base) I.ok.mod.kin hm.kp (thn (ha.run pos pins s1 σ H1 _ I1 q) fun us s2 ⟨vs, H2, I2, r, q2⟩ => ⟨I2.kIn, ?_⟩) hst hpl
  exact run_fnS (us := .ref a :: us) (vs := .ref a :: vs) F hr hb (hx σ) I2 (.cons rfl r) q2
theorem pe_methX0 {pl : Sem Bool} (he : PE X o ta) (c : Cls X.K C) (hm : Meth X.K C m f) (F : FnOk X.prog X.w X.K X.mg X.base CX k f fd ps sp) (hr : Room k X.A) (hb : Binds X.K fd ps []) (hx : ∀ σ, PassesAt CX X σ (E σ))
    (ht : eval (.Call (.Attribute o m apos) [] [] pos) X.env = (do
      let ov ← eval o X.env
      standAt apos.atName
      let (f, first) ← holding [ov] (getMethod ov m pl)
      callWith pos f first (backTo pos (starEach [] X.env)) (backToKw pos (keywordEach [] X.env))) := by rfl) :
    PE X (.Call (.Attribute o m apos) [] [] pos) (tMethS C m sp E ta tNil) := by
  refine ⟨fun pins s σ H Q I h => ?_⟩
  refine PySem.W.methodCall_KW (pl := pl) (thn (he.run pins s σ H _ I h) fun u s1 ⟨x, H1, I1, rx, a, dx, fs, ex, ea, l, q⟩ => ?_) ht
  subst ex
  obtain rfl : u = Value.ref a := rx
  refine getmeth_ok I1 ea c hm l ?_
  exact PySem.W.callWith_K0 (first := [.ref a]) I1.kIn hm.kp (run_fnS (us := [.ref a]) (vs := [.ref a]) F hr hb (hx σ) I1 (.cons rfl .nil) q)
end
structure FnRf (P : Program) (w : World) (K : PySem.W.Frag) (mg : Str → Option Value) (base : Heap) (k : Nat) (x : Str) (n : Nat) (F : List Ob → List D → R D) : Prop where
  ex : ∃ f fd ps, mg x = some (.ref f) ∧ PySem.W.keepIn K (.ref f) = true ∧ Binds K fd ps [] ∧ FnOk P w K mg base (L2.CX P w) k f fd ps (spR K mg n F)
structure FnRm (P : Program) (w : World) (K : PySem.W.Frag) (mg : Str → Option Value) (base : Heap) (k : Nat) (c m : Str) (n : Nat) (F : List Ob → List D → R D) : Prop where
  ex : ∃ f fd ps, Meth K (He.ga K c) m f ∧ Binds K fd ps [] ∧ FnOk P w K mg base (L2.CX P w) k f fd ps (spR K mg n F)
theorem spR_red {K : PySem.W.Frag} {mg : Str → Option Value} {E : WX} {T : Stt} {s : St} {H : Hp} {Q : VK} {F : List Ob → List D → R D} {n : Nat} {vs : List V} {ds : List D} (R : Rl K T s H) (r : RpOA K T.G vs ds) (hn : ds.length = n) (ho : T.r.getLast? ≠ none ∧ ∃ w os, T.r.getLast? = some (.st w os)) (h : KE K mg E T s H (fun d G' H' => ∀ v, RpE K G' s v d → Q v H') (F (stOf T.r) ds)) : spR K mg n F vs H Q (WE E s) := by
  obtain ⟨_, w, os, eo⟩ := ho
  have es : stOf T.r = os := by unfold stOf; rw [eo]
  have S : StOk K T.H0 T.G H w os := by
    have q := eo
    rw [List.getLast?_eq_getElem?] at q
    exact R.sl _ _ q
  refine ⟨T.G, ds, os, R.gh, R.gf, ⟨S.at_, S.un, S.lt, fun _ _ _ z => by cases z⟩, r, hn, ?_⟩
  rw [es] at h
  cases e : F os ds with
  | ok d =>
    rw [e] at h
    exact fun v G' H' a b c nw rv => h G' H' a b nw (R.step a b c nw) v rv.e
  | err c =>
    rw [e] at h
    exact fun H' eh => h H' (R.hh.trans eh) eh
  | stuck => rw [e] at h; exact h
def hasSt (r : Rho) : Bool := match r.getLast? with
  | some (.st _ _) => true
  | _ => false
theorem hasSt_ok {r : Rho} (h : hasSt r = true) : r.getLast? ≠ none ∧ ∃ w os, r.getLast? = some (.st w os) := by
  unfold hasSt at h
  cases e : r.getLast? with
  | none => rw [e] at h; cases h
  | some x =>
    rw [e] at h
    cases x with
    | st w os => exact ⟨fun z => (by cases z), w, os, rfl⟩
    | _ => cases h
def fCallR (n : Nat) (F : List Ob → List D → R D) (fs : Rho → R (List D)) (r : Rho) : R D := (fs r).bnd fun ds => if ds.length == n && hasSt r then F (stOf r) ds else .stuck
def fMethR (c m : Str) (n : Nat) (F : List Ob → List D → R D) (fo : Rho → R D) (fs : Rho → R (List D)) (r : Rho) : R D := (fo r).bnd fun d => match flds c r d with
  | some (k, flds) => (match flds.lookup m with
    | none => (fs r).bnd fun ds => if ds.length + 1 == n && hasSt r then F (stOf r) (.obj k :: ds) else .stuck
    | some _ => .stuck)
  | none => .stuck
section
variable {X : Cx} {E : WX} {o e : Expr} {fo : Rho → R D} {es : List Expr} {fs : Rho → R (List D)} {x c m : Str} {p apos pos : Pos} {k kx n : Nat} {F : List Ob → List D → R D}
theorem ev_callR (hF : FnRf X.prog X.w X.K X.mg X.base k x n F) (hr : Room kx X.A) (hx : ∀ σ, PassesAt (L2.CX X.prog X.w) X σ (WE E σ)) (hg : Gl X x) (ha : EAo X E (e :: es) fs) (hk : k ≤ kx := by decide)
    (hdb : (x == ("__debug__" : Str)) = false := by decide) (he : starEach (e :: es) X.env = (false, eval e X.env) :: starEach es X.env := by rfl) (hpl : (backTo pos (starEach es X.env)).any (·.1) = false := by rfl) : EV X E (.Call (.Name x p) (e :: es) [] pos) (fCallR n F fs) := by
  obtain ⟨f, fd, ps, hm, hkp, hb, ok⟩ := hF.ex
  refine pe_imp (pe_callS (E := WE E) ok (hr.mono hk) hg hm hkp hb hx ha hdb he hpl) fun s H Q ⟨T, R, h⟩ => ⟨T, R, KE.bnd h fun ds G1 H1 ed eg eh R1 h1 vs rvs => ?_⟩
  show spR X.K X.mg n F vs H1 Q (WE E s)
  cases el : (ds.length == n && hasSt T.r) with
  | false => rw [el] at h1; exact h1.elim
  | true =>
    rw [el] at h1
    rw [Bool.and_eq_true] at el
    exact spR_red (T := { T with G := G1 }) R1 rvs (by simpa using el.1) (hasSt_ok el.2) h1
theorem methR_red {K : PySem.W.Frag} {mg : Str → Option Value} {s : St} {H : Hp} {Q : VK} {T : Stt} (R : Rl K T s H) (h : KE K mg E T s H (fun d G' H' => ∀ v, RpE K G' s v d → Q v H') (fMethR c m n F fo fs T.r)) :
    KE K mg E T s H (fun d G' H' => ∀ v, RpE K G' s v d → ∃ a dx fvs, v = .ref a ∧ H' a = some (.ins (He.ga K c) dx fvs) ∧ fvs.lookup m = none ∧ tAo K mg E fs s H' fun vs H2 => spR K mg n F (v :: vs) H2 Q (WE E s)) (fo T.r) := by
  refine KE.bnd h fun d G1 H1 _ eg eh R1 h1 v rv => ?_
  cases e : flds c T.r d with
  | none => rw [e] at h1; exact h1.elim
  | some p =>
    obtain ⟨j, fl⟩ := p
    rw [e] at h1
    obtain ⟨rfl, _, b, dx, fvs, rfl, q0, q1, q2, _⟩ := flds_ok (T := { T with G := G1 }) R1 rv e
    simp only at h1
    cases el : fl.lookup m with
    | some _ => rw [el] at h1; exact h1.elim
    | none =>
      rw [el] at h1
      refine ⟨b, dx, fvs, rfl, q1, q2.lookN el, { T with G := G1 }, R1, KE.bnd (T := { T with G := G1 }) h1 fun ds G2 H2 _ eg2 eh2 R2 h2 vs rvs => ?_⟩
      cases ec : (ds.length + 1 == n && hasSt T.r) with
      | false => rw [ec] at h2; exact h2.elim
      | true =>
        rw [ec] at h2
        rw [Bool.and_eq_true] at ec
        exact spR_red (T := { T with G := G2 }) (ds := .obj j :: ds) R2 (.cons (.obj (eg2 _ _ q0)) rvs) (by simpa using ec.1) (hasSt_ok ec.2) h2
theorem ev_methR0 (hc : Cls X.K (He.ga X.K c)) (hF : FnRm X.prog X.w X.K X.mg X.base k c m n F) (hr : Room kx X.A) (hx : ∀ σ, PassesAt (L2.CX X.prog X.w) X σ (WE E σ)) (ho : EV X E o fo) (hk : k ≤ kx := by decide) {pl : Sem Bool}
    (ht : eval (.Call (.Attribute o m apos) [] [] pos) X.env = (do
      let ov ← eval o X.env
      standAt apos.atName
      let (f, first) ← holding [ov] (getMethod ov m pl)
      callWith pos f first (backTo pos (starEach [] X.env)) (backToKw pos (keywordEach [] X.env))) := by rfl) : EV X E (.Call (.Attribute o m apos) [] [] pos) (fMethR c m n F fo fNil) := by
  obtain ⟨f, fd, ps, hm, hb, ok⟩ := hF.ex
  refine pe_imp (pe_methX0 (E := WE E) (pl := pl) ho hc hm ok (hr.mono hk) hb hx ht) fun s H Q ⟨T, R, h⟩ => ⟨T, R, KE.imp (methR_red R h) fun d G' H' _ _ _ q v rv => ?_⟩
  obtain ⟨a, dx, fvs, e1, e2, e3, T2, R2, q⟩ := q v rv
  exact ⟨a, dx, fvs, e1, e2, e3, KE.here q R2 [] .nil⟩
end
section
variable {P : Program} {w : World} {K : PySem.W.Frag} {mg : Str → Option Value} {base : Heap}
theorem fn_okR {x qual : Str} {params : Arguments} {body : List Stmt} {scope : Scope} {f : Addr} {fd : FuncData} {N ps : List Str} {k : Nat} {fb : Rho → R Fl} (F : FunD K x qual params body scope [] [] f fd) (S : FnScope N ps scope)
    (hbody : ∀ (cdv : Value) (A : Around) (outer : List Env) (s : Shared) (H : Hp) (E : XK), Cxt (cxOf (L2.CX P w) P w K mg base N qual scope f cdv A outer s H E) (fun cls d _ H => E cls d H) k → SSs (cxOf (L2.CX P w) P w K mg base N qual scope f cdv A outer s H E) (fun cls d _ H => E cls d H) body fb) :
    FnOk P w K mg base (L2.CX P w) (k + 1) f fd ps (spR K mg ps.length (runR fb N.length)) := by
  refine F.ok S (fun vs H Q E h => ?_) fun cdv A outer s H vs Q E hr h => ?_
  · obtain ⟨G, ds, os, _, _, _, r, hn, _⟩ := h
    rw [r.length, hn]
  · have tk : Takes (cxOf (L2.CX P w) P w K mg base N qual scope f cdv A outer s H E) (fun cls d _ H => E cls d H) := takes_of rfl rfl rfl rfl
    exact ⟨_, hbody cdv A outer s H E ⟨hr, fun σ => passAt tk σ, rfl, S.nd, passes_of rfl, tk⟩, run_redR (pre_len S) h⟩
theorem fn_okO {x : Str} {params : Arguments} {body : List Stmt} {scope : Scope} {f : Addr} {fd : FuncData} {N ps : List Str} {k : Nat} {fb : Rho → R Fl} (F : FunD K x x params body scope [] [] f fd) (S : FnScope N ps scope)
    (hbody : ∀ (cdv : Value) (A : Around) (outer : List Env) (s : Shared) (H : Hp) (E : XK), Cxt (cxOf (L2.CX P w) P w K mg base N x scope f cdv A outer s H E) (fun cls d _ H => E cls d H) k → SSs (cxOf (L2.CX P w) P w K mg base N x scope f cdv A outer s H E) (fun cls d _ H => E cls d H) body fb) :
    FnOk P w K mg base (L2.CX P w) (k + 1) f fd ps (spF K mg ps.length (runO fb N.length)) := by
  refine F.ok S (fun vs H Q E h => ?_) fun cdv A outer s H vs Q E hr h => ?_
  · obtain ⟨G, ds, _, _, r, hn, _⟩ := h
    rw [r.length, hn]
  · have tk : Takes (cxOf (L2.CX P w) P w K mg base N x scope f cdv A outer s H E) (fun cls d _ H => E cls d H) := takes_of rfl rfl rfl rfl
    exact ⟨_, hbody cdv A outer s H E ⟨hr, fun σ => passAt tk σ, rfl, S.nd, passes_of rfl, tk⟩, run_redO (pre_len S) h⟩
end
end PL
end
section
namespace PL
open PySem PySem.Spec PyProof.Rows L2
def hid (G H : Hp) : Hp := fun a => match G a with
  | some o => if isMk o then none else H a
  | none => H a
theorem hid_is {G H : Hp} {a : Addr} {o : HO} (h : hid G H a = some o) : H a = some o ∧ ∀ u, G a = some u → isMk u = false := by
  unfold hid at h
  cases e : G a with
  | none => rw [e] at h; exact ⟨h, fun u z => by cases z⟩
  | some u =>
    rw [e] at h
    cases m : isMk u with
    | true => simp [m] at h
    | false =>
      simp [m] at h
      refine ⟨h, fun u' z => ?_⟩
      cases z
      exact m
theorem hid_none {G H : Hp} {a : Addr} (h : H a = none) : hid G H a = none := by
  unfold hid
  cases e : G a with
  | none => exact h
  | some u =>
    show (if isMk u then none else H a) = none
    split
    · rfl
    · exact h
theorem hid_mk {G H : Hp} {a : Addr} {k : Nat} (h : G a = some (mrk k)) : hid G H a = none := by
  unfold hid
  rw [h]
  rfl
theorem hid_at {G H : Hp} {a : Addr} {o : HO} (h : H a = some o) (n : ∀ u, G a = some u → isMk u = false) : hid G H a = some o := by
  unfold hid
  cases e : G a with
  | none => exact h
  | some u =>
    show (if isMk u then none else H a) = some o
    rw [n u e]
    exact h
def setSt (r : Rho) (os : List Ob) : Rho := r.set (r.length - 1) (.st true os)
theorem set_last_get {r : Rho} {x : Sl} (h : hasSt r = true) : (r.set (r.length - 1) x).getLast? = some x := by
  have hl : r ≠ [] := fun z => by rw [z] at h; cases h
  have : 0 < r.length := List.length_pos_iff.mpr hl
  rw [List.getLast?_eq_getElem?, List.length_set, List.getElem?_set_self (by omega)]
theorem stOf_set {r : Rho} {os : List Ob} (h : hasSt r = true) : stOf (setSt r os) = os := by
  unfold stOf setSt
  rw [set_last_get h]
theorem last_at {r : Rho} (h : hasSt r = true) : ∃ w os, r[r.length - 1]? = some (.st w os) ∧ stOf r = os := by
  obtain ⟨_, w, os, e⟩ := hasSt_ok h
  refine ⟨w, os, ?_, by unfold stOf; rw [e]⟩
  rw [← List.getLast?_eq_getElem?]
  exact e
section
variable {K : PySem.W.Frag} {G0 H0 G H G' H' : Hp} {r : Rho} {s : St}
theorem Rel.after (R : Rel K G0 H0 r s G H) (hs : hasSt r = true) (eg : Ex G G') (fr : ∀ a o, hid G H a = some o → H' a = some o) (gh : Ex (um G') H') (gf : ∀ a, H' a = none → G' a = none) (nw : ∀ a o, G' a = some o → G a = none → H a = none) {os : List Ob} {X0 : Hp} (S : StOk K X0 G' H' false os) :
    Rel K G0 (hid G H0) (setSt r os) s G' H' := by
  obtain ⟨w, os0, el, _⟩ := last_at hs
  have keep : ∀ a o, H a = some o → G a = none → G' a = none ∧ H' a = some o := fun a o h1 h2 => by
    refine ⟨?_, fr a o (hid_at h1 fun u z => by rw [h2] at z; cases z)⟩
    cases e : G' a with
    | none => rfl
    | some u =>
      have z := nw a u e h2
      rw [h1] at z
      cases z
  have ge : ∀ i x, i ≠ r.length - 1 → (setSt r os)[i]? = some x → r[i]? = some x := fun i x ne e => by
    unfold setSt at e
    rwa [List.getElem?_set_ne (Ne.symm ne)] at e
  have hl : r.length - 1 < r.length := by
    have := (List.getElem?_eq_some_iff.mp el).1
    exact this
  have at_last : (setSt r os)[r.length - 1]? = some (.st true os) := by
    unfold setSt
    rw [List.getElem?_set_self hl]
  have ow : ∀ i a, OwnAt (setSt r os) s i a → OwnAt r s i a := fun i a ⟨q1, q2⟩ => by
    by_cases e : i = r.length - 1
    · subst e
      rw [at_last] at q1
      exact q1.elim
    · cases ex : (setSt r os)[i]? with
      | none => rw [ex] at q1; exact q1.elim
      | some x =>
        rw [ex] at q1
        exact ⟨by rw [ge i x e ex]; exact q1, q2⟩
  refine ⟨R.gg.trans eg, fun a o q => ?_, gh, gf, fun a o q n => ?_, fun i x hx => ?_, fun i j a h1 h2 => R.ds i j a (ow i a h1) (ow j a h2), ⟨?_, ?_, fun i x hx => ?_⟩⟩
  · obtain ⟨q1, q2⟩ := hid_is q
    exact fr a o (hid_at (R.hh _ _ q1) q2)
  · cases e : G a with
    | some u => exact hid_none (R.nw a u e n)
    | none => exact hid_none (R.hh.free (nw a o q e))
  · by_cases e : i = r.length - 1
    · subst e
      rw [at_last] at hx
      cases hx
      refine ⟨S.at_, S.un, S.lt, fun a k ha _ => ?_⟩
      cases e : G a with
      | some u =>
        have z := eg _ _ e
        rw [ha] at z
        cases z
        exact hid_mk e
      | none => exact hid_none (R.hh.free (nw a _ ha e))
    · have q := R.sl i x (ge i x e hx)
      cases x with
      | un => exact q
      | im d =>
        obtain ⟨v, e1, e2⟩ := q
        exact ⟨v, e1, e2.mono eg⟩
      | ol ds =>
        obtain ⟨a, xs, e1, e2, e3, e4, e5⟩ := q
        obtain ⟨k1, k2⟩ := keep a _ e2 e3
        exact ⟨a, xs, e1, k2, k1, hid_none e4, e5.mono eg⟩
      | od ds =>
        obtain ⟨a, xs, e1, e2, e3, e4, e5⟩ := q
        obtain ⟨k1, k2⟩ := keep a _ e2 e3
        exact ⟨a, xs, e1, k2, k1, hid_none e4, e5.mono eg⟩
      | st w' os' =>
        exfalso
        have z1 := (R.ln.st i _ (ge i _ e hx)).mp trivial
        have z2 := (List.getElem?_eq_some_iff.mp (ge i _ e hx)).1
        have z3 := R.ln.hi
        have z4 := (R.ln.st _ _ el).mp trivial
        omega
  · unfold setSt
    rw [List.length_set]
    exact R.ln.lo
  · unfold setSt
    rw [List.length_set]
    exact R.ln.hi
  · by_cases e : i = r.length - 1
    · subst e
      rw [at_last] at hx
      cases hx
      have z4 := (R.ln.st _ _ el).mp trivial
      exact ⟨fun _ => z4, fun _ => trivial⟩
    · exact R.ln.st i x (ge i x e hx)
end
end PL
end
section
namespace PL
open PySem PySem.Spec PyProof.Rows L2
def PostM (K : PySem.W.Frag) (G H : Hp) (d : D) (os : List Ob) (Q : VK) : Prop := ∀ v G' H', Ex G G' → (∀ a o, hid G H a = some o → H' a = some o) → Ex (um G') H' → (∀ a, H' a = none → G' a = none) → (∀ a o, G' a = some o → G a = none → H a = none) → StOk K H G' H' false os → RpO K G' v d → Q v H'
def spM (K : PySem.W.Frag) (mg : Str → Option Value) (n : Nat) (F : List Ob → List D → R (D × List Ob)) : Sp := fun vs H Q E => ∃ G ds os, Ex (um G) H ∧ (∀ a, H a = none → G a = none) ∧ StOk K H G H false os ∧ RpOA K G vs ds ∧ ds.length = n ∧ (match F os ds with
  | .ok (d, os') => PostM K G H d os' Q
  | .err c => ∀ H', Ex H H' → E (clsV mg c) none H'
  | .stuck => False)
structure FnMf (P : Program) (w : World) (K : PySem.W.Frag) (mg : Str → Option Value) (base : Heap) (k : Nat) (x : Str) (n : Nat) (F : List Ob → List D → R (D × List Ob)) : Prop where
  ex : ∃ f fd ps, mg x = some (.ref f) ∧ PySem.W.keepIn K (.ref f) = true ∧ Binds K fd ps [] ∧ FnOk P w K mg base (L2.CX P w) k f fd ps (spM K mg n F)
structure FnMm (P : Program) (w : World) (K : PySem.W.Frag) (mg : Str → Option Value) (base : Heap) (k : Nat) (c m : Str) (n : Nat) (F : List Ob → List D → R (D × List Ob)) : Prop where
  ex : ∃ f fd ps, Meth K (He.ga K c) m f ∧ Binds K fd ps [] ∧ FnOk P w K mg base (L2.CX P w) k f fd ps (spM K mg n F)
def KM (K : PySem.W.Frag) (mg : Str → Option Value) (E : WX) (T : Stt) (s : St) (H : Hp) (P : D → Hp → Hp → Prop) : R (D × List Ob) → Prop
  | .ok (d, os) => ∀ G' H', Ex T.G G' → Rel K T.G0 (hid T.G T.H0) (setSt T.r os) s G' H' → P d G' H'
  | .err c => ∀ H', Ex T.H0 H' → Ex H H' → E (clsV mg c) none s H'
  | .stuck => False
def tEM (K : PySem.W.Frag) (mg : Str → Option Value) (E : WX) (f : Rho → R (D × List Ob)) : TE := fun s H Q => ∃ T, Rl K T s H ∧ hasSt T.r = true ∧ KM K mg E T s H (fun d G' H' => ∀ v, RpO K G' v d → Q v H') (f T.r)
def EVM (X : Cx) (E : WX) (e : Expr) (f : Rho → R (D × List Ob)) : Prop := PE X e (tEM X.K X.mg E f)
section
variable {K : PySem.W.Frag} {mg : Str → Option Value} {E : WX}
theorem KM.mono {T : Stt} {s : St} {H H1 : Hp} {G1 : Hp} {P : D → Hp → Hp → Prop} {x : R (D × List Ob)} (h : KM K mg E T s H P x) (eg : Ex T.G G1) (eh : Ex H H1) (nw : Nw T.G G1 H) (R : Rl K T s H) : KM K mg E { T with G := G1 } s H1 P x := by
  cases x with
  | ok p =>
    intro G' H' a b
    have e : hid T.G T.H0 = hid G1 T.H0 := by
      funext c
      unfold hid
      cases q : T.G c with
      | some u => rw [eg _ _ q]
      | none =>
        cases q1 : G1 c with
        | none => rfl
        | some u =>
          have m : isMk u = false := by
            cases m : isMk u with
            | false => rfl
            | true => rw [nw.old c u q1 m] at q; cases q
          simp [m]
    refine h G' H' (eg.trans a) ?_
    rw [e]
    exact b
  | err c => exact fun H' e0 e1 => h H' e0 (eh.trans e1)
  | stuck => exact h
theorem KM.bnd {α : Type} {T : Stt} {s : St} {H : Hp} {x : R α} {k : α → R (D × List Ob)} {P : D → Hp → Hp → Prop} {P' : α → Hp → Hp → Prop} (R : Rl K T s H) (h : KM K mg E T s H P (x.bnd k))
    (hk : ∀ d G' H', x = .ok d → Ex T.G G' → Ex H H' → Nw T.G G' H → Rel K T.G0 T.H0 T.r s G' H' → KM K mg E { T with G := G' } s H' P (k d) → P' d G' H') : KE K mg E T s H P' x := by
  cases x with
  | ok d => exact fun G' H' a b n c => hk d G' H' rfl a b n c (KM.mono h a b n R)
  | err c => exact fun H' e0 e1 => h H' e0 e1
  | stuck => exact h
theorem spM_red {T : Stt} {s : St} {H : Hp} {Q : VK} {F : List Ob → List D → R (D × List Ob)} {n : Nat} {vs : List V} {ds : List D} (R : Rl K T s H) (r : RpOA K T.G vs ds) (hn : ds.length = n) (ho : hasSt T.r = true) (h : KM K mg E T s H (fun d G' H' => ∀ v, RpO K G' v d → Q v H') (F (stOf T.r) ds)) : spM K mg n F vs H Q (WE E s) := by
  obtain ⟨w, os, el, es⟩ := last_at ho
  have S : StOk K T.H0 T.G H w os := R.sl _ _ el
  rw [es] at h
  refine ⟨T.G, ds, os, R.gh, R.gf, ⟨S.at_, S.un, S.lt, fun _ _ _ z => by cases z⟩, r, hn, ?_⟩
  cases e : F os ds with
  | ok p =>
    obtain ⟨d, os'⟩ := p
    rw [e] at h
    exact fun v G' H' a fr gh gf nw S' rv => h G' H' a (R.after ho a fr gh gf nw S') v rv
  | err c =>
    rw [e] at h
    exact fun H' eh => h H' (R.hh.trans eh) eh
  | stuck => rw [e] at h; exact h
end
def fCallM (n : Nat) (F : List Ob → List D → R (D × List Ob)) (fs : Rho → R (List D)) (r : Rho) : R (D × List Ob) := (fs r).bnd fun ds => if ds.length == n then F (stOf r) ds else .stuck
def fMethM (c m : Str) (n : Nat) (F : List Ob → List D → R (D × List Ob)) (fo : Rho → R D) (fs : Rho → R (List D)) (r : Rho) : R (D × List Ob) := (fo r).bnd fun d => match flds c r d with
  | some (k, flds) => (match flds.lookup m with
    | none => (fs r).bnd fun ds => if ds.length + 1 == n then F (stOf r) (.obj k :: ds) else .stuck
    | some _ => .stuck)
  | none => .stuck
section
variable {X : Cx} {E : WX} {o e : Expr} {fo : Rho → R D} {es : List Expr} {fs : Rho → R (List D)} {x c m : Str} {p apos pos : Pos} {k kx n : Nat} {F : List Ob → List D → R (D × List Ob)}
theorem evm_call (hF : FnMf X.prog X.w X.K X.mg X.base k x n F) (hr : Room kx X.A) (hx : ∀ σ, PassesAt (L2.CX X.prog X.w) X σ (WE E σ)) (hg : Gl X x) (ha : EAo X E (e :: es) fs) (hk : k ≤ kx := by decide)
    (hdb : (x == ("__debug__" : Str)) = false := by decide) (he : starEach (e :: es) X.env = (false, eval e X.env) :: starEach es X.env := by rfl) (hpl : (backTo pos (starEach es X.env)).any (·.1) = false := by rfl) : EVM X E (.Call (.Name x p) (e :: es) [] pos) (fCallM n F fs) := by
  obtain ⟨f, fd, ps, hm, hkp, hb, ok⟩ := hF.ex
  refine pe_imp (pe_callS (E := WE E) ok (hr.mono hk) hg hm hkp hb hx ha hdb he hpl) fun s H Q ⟨T, R, hs, h⟩ => ⟨T, R, KM.bnd R h fun ds G1 H1 ed eg eh nw R1 h1 vs rvs => ?_⟩
  show spM X.K X.mg n F vs H1 Q (WE E s)
  cases el : (ds.length == n) with
  | false => rw [el] at h1; exact h1.elim
  | true =>
    rw [el] at h1
    exact spM_red (T := { T with G := G1 }) R1 rvs (by simpa using el) hs h1
theorem methM_red {K : PySem.W.Frag} {mg : Str → Option Value} {s : St} {H : Hp} {Q : VK} {T : Stt} (R : Rl K T s H) (hs : hasSt T.r = true) (h : KM K mg E T s H (fun d G' H' => ∀ v, RpO K G' v d → Q v H') (fMethM c m n F fo fs T.r)) :
    KE K mg E T s H (fun d G' H' => ∀ v, RpE K G' s v d → ∃ a dx fvs, v = .ref a ∧ H' a = some (.ins (He.ga K c) dx fvs) ∧ fvs.lookup m = none ∧ tAo K mg E fs s H' fun vs H2 => spM K mg n F (v :: vs) H2 Q (WE E s)) (fo T.r) := by
  refine KM.bnd R h fun d G1 H1 _ eg eh nw R1 h1 v rv => ?_
  cases e : flds c T.r d with
  | none => rw [e] at h1; exact h1.elim
  | some p =>
    obtain ⟨j, fl⟩ := p
    rw [e] at h1
    obtain ⟨rfl, _, b, dx, fvs, rfl, q0, q1, q2, _⟩ := flds_ok (T := { T with G := G1 }) R1 rv e
    simp only at h1
    cases el : fl.lookup m with
    | some _ => rw [el] at h1; exact h1.elim
    | none =>
      rw [el] at h1
      refine ⟨b, dx, fvs, rfl, q1, q2.lookN el, { T with G := G1 }, R1, KM.bnd (T := { T with G := G1 }) R1 h1 fun ds G2 H2 _ eg2 eh2 nw2 R2 h2 vs rvs => ?_⟩
      cases ec : (ds.length + 1 == n) with
      | false => rw [ec] at h2; exact h2.elim
      | true =>
        rw [ec] at h2
        exact spM_red (T := { T with G := G2 }) (ds := .obj j :: ds) R2 (.cons (.obj (eg2 _ _ q0)) rvs) (by simpa using ec) hs h2
theorem evm_meth (hc : Cls X.K (He.ga X.K c)) (hF : FnMm X.prog X.w X.K X.mg X.base k c m n F) (hr : Room kx X.A) (hx : ∀ σ, PassesAt (L2.CX X.prog X.w) X σ (WE E σ)) (ho : EV X E o fo) (ha : EAo X E (e :: es) fs) (hk : k ≤ kx := by decide) {pl : Sem Bool}
    (hst : starEach (e :: es) X.env = (false, eval e X.env) :: starEach es X.env := by rfl) (hpl : (backTo pos (starEach es X.env)).any (·.1) = false := by rfl)
    (ht : eval (.Call (.Attribute o m apos) (e :: es) [] pos) X.env = (do
      let ov ← eval o X.env
      standAt apos.atName
      let (f, first) ← holding [ov] (getMethod ov m pl)
      callWith pos f first (backTo pos (starEach (e :: es) X.env)) (backToKw pos (keywordEach [] X.env))) := by rfl) : EVM X E (.Call (.Attribute o m apos) (e :: es) [] pos) (fMethM c m n F fo fs) := by
  obtain ⟨f, fd, ps, hm, hb, ok⟩ := hF.ex
  exact pe_imp (pe_methX (E := WE E) (pl := pl) ho hc hm ok (hr.mono hk) hb hx ha hst hpl ht) fun s H Q ⟨T, R, hs, h⟩ => ⟨T, R, methM_red R hs h⟩
end
def tMakeX (C : Addr) (sp : Sp) (E : St → XK) (t : TA) : TE := fun σ H Q => t σ H fun vs H1 => ∀ x dx, H1 x = none → H1 dx = none → dx ≠ x →
  sp (.ref x :: vs) (upd (upd H1 dx (.own x)) x (.ins C dx [])) (fun v H2 => v = .non ∧ Q (.ref x) H2) (E σ)
section
variable {X : Cx} {CX : CXT} {k : Nat} {f C : Addr} {fd : FuncData} {ps : List Str} {sp : Sp} {E : St → XK} {x : Str} {p pos : Pos} {e : Expr} {es : List Expr} {t : TA}
theorem run_makeX {pins : List (Addr × Obj)} {σ : St} {H : Hp} {s : Shared} {Q : VK} {us : List Value} {vs : List V} (M : Mk X.K C f) (F : FnOk X.prog X.w X.K X.mg X.base CX k f fd ps sp) (hr : Room (k + 1) X.A) (hb : Binds X.K fd ps [])
    (hx : PassesAt CX X σ (E σ)) (I : Inv X pins σ H s) (r : Vals vs us)
    (h : ∀ x dx, H x = none → H dx = none → dx ≠ x → sp (.ref x :: vs) (upd (upd H dx (.own x)) x (.ins C dx [])) (fun v H2 => v = .non ∧ Q (.ref x) H2) (E σ)) :
    wpAny (model X.prog X.w) X.A (call (.ref C) us) (EP X pins σ Q) X.xe s := by
  have hq := h (s.heap.objs.size + 1) s.heap.objs.size (I.hok.fresh (Nat.le_succ _)) (I.hok.fresh (Nat.le_refl _)) (Nat.ne_of_lt (Nat.lt_succ_self _))
  have I2 := Inv.made (C := C) I
  have r2 : Vals (V.ref (s.heap.objs.size + 1) :: vs) (Value.ref (s.heap.objs.size + 1) :: us) := .cons rfl r
  have hl : (Value.ref (s.heap.objs.size + 1) :: us).length = ps.length := by
    have e := r2.length
    rw [F.len _ _ _ _ hq] at e
    exact e.symm
  refine wpAny_call (make_map (f := f) I.kIn M.makes M.init (beq_iff_eq.mp M.fn) (codeAny_mono (F.run _ X.stack _ _ ⟨Value.ref (s.heap.objs.size + 1) :: us, []⟩ (Value.ref (s.heap.objs.size + 1) :: us) _ _ (E σ) (hr.make C us [])
    (I2.env0.make C us []) (by have q := hb _ (Value.ref (s.heap.objs.size + 1) :: us) I2.kIn (by rw [List.append_nil]; exact hl); rwa [List.append_nil] at q) r2 hq) fun r s' hq' => ?_))
  cases r with
  | error e => exact hx pins _ _ e s' I2 hq'
  | ok fl =>
    cases fl with
    | ret u =>
      obtain ⟨v, H', I3, rv, ev, q3⟩ := I2.after hq'
      subst ev
      exact ⟨rv, ⟨V.ref (s.heap.objs.size + 1), H', I3, rfl, q3⟩⟩
    | next => exact False.elim hq'
    | brk => exact False.elim hq'
    | cont => exact False.elim hq'
theorem pe_makeX (M : Mk X.K C f) (F : FnOk X.prog X.w X.K X.mg X.base CX k f fd ps sp) (hr : Room (k + 1) X.A) (hg : Gl X x) (hm : X.mg x = some (.ref C)) (hb : Binds X.K fd ps []) (hx : ∀ σ, PassesAt CX X σ (E σ))
    (ha : PA X (e :: es) t) (hdb : (x == ("__debug__" : Str)) = false := by decide) (he : starEach (e :: es) X.env = (false, eval e X.env) :: starEach es X.env := by rfl) (hpl : (backTo pos (starEach es X.env)).any (·.1) = false := by rfl) :
    PE X (.Call (.Name x p) (e :: es) [] pos) (tMakeX C sp E t) := by
  refine ⟨fun pins s σ H Q I h => ?_⟩
  refine wpAny_Call_Name_kw (ld_glob I hg hm ?_ hdb)
  refine PySem.W.callWith_K (h₀ := X.base) I.ok.mod.kin M.kp (thn (ha.run pos pins s σ H _ I h) fun us s1 ⟨vs, H1, I1, r, q⟩ => ⟨I1.kIn, ?_⟩) he hpl
  exact run_makeX M F hr hb (hx σ) I1 r q
end
structure ClsM (P : Program) (w : World) (K : PySem.W.Frag) (mg : Str → Option Value) (base : Heap) (k : Nat) (c : Str) (n : Nat) (F : List Ob → List D → R (D × List Ob)) : Prop where
  ex : ∃ f fd ps, Mk K (He.ga K c) f ∧ mg c = some (.ref (He.ga K c)) ∧ Binds K fd ps [] ∧ FnOk P w K mg base (L2.CX P w) k f fd ps (spM K mg n F)
def mkD (k : Nat) : R (D × List Ob) → R (D × List Ob)
  | .ok (.non, os) => .ok (.obj k, os)
  | .ok _ => .stuck
  | .err c => .err c
  | .stuck => .stuck
def fMake (c : Str) (n : Nat) (F : List Ob → List D → R (D × List Ob)) (fs : Rho → R (List D)) (r : Rho) : R (D × List Ob) := (fs r).bnd fun ds => if ds.length + 1 == n then mkD (stOf r).length (F (stOf r ++ [.ins c []]) (.obj (stOf r).length :: ds)) else .stuck
section
variable {X : Cx} {E : WX} {e : Expr} {es : List Expr} {fs : Rho → R (List D)} {c : Str} {p pos : Pos} {k kx n : Nat} {F : List Ob → List D → R (D × List Ob)}
theorem evm_make (hF : ClsM X.prog X.w X.K X.mg X.base k c n F) (hr : Room kx X.A) (hx : ∀ σ, PassesAt (L2.CX X.prog X.w) X σ (WE E σ)) (hg : Gl X c) (ha : EAo X E (e :: es) fs) (hk : k + 1 ≤ kx := by decide)
    (hdb : (c == ("__debug__" : Str)) = false := by decide) (he : starEach (e :: es) X.env = (false, eval e X.env) :: starEach es X.env := by rfl) (hpl : (backTo pos (starEach es X.env)).any (·.1) = false := by rfl) : EVM X E (.Call (.Name c p) (e :: es) [] pos) (fMake c n F fs) := by
  obtain ⟨f, fd, ps, M, hm, hb, ok⟩ := hF.ex
  refine pe_imp (pe_makeX (E := WE E) M ok (hr.mono hk) hg hm hb hx ha hdb he hpl) fun s H Q ⟨T, R, hs, h⟩ => ⟨T, R, KM.bnd R h fun ds G1 H1 ed eg eh nw R1 h1 vs rvs x dx hx0 hd0 ne => ?_⟩
  show spM X.K X.mg n F (.ref x :: vs) (upd (upd H1 dx (.own x)) x (.ins (He.ga X.K c) dx [])) _ (WE E s)
  cases el : (ds.length + 1 == n) with
  | false => rw [el] at h1; exact h1.elim
  | true =>
    rw [el] at h1
    obtain ⟨w, os, ela, es⟩ := last_at hs
    have S : StOk X.K T.H0 G1 H1 w os := R1.sl _ _ ela
    rw [es] at h1
    have gx : G1 x = none := R1.gf x hx0
    have gd : G1 dx = none := R1.gf dx hd0
    have hu : ∀ b o, H1 b = some o → upd (upd H1 dx (.own x)) x (.ins (He.ga X.K c) dx []) b = some o := fun b o q => by
      rw [upd_ne (ne_of_none q hx0), upd_ne (ne_of_none q hd0)]
      exact q
    have eG : Ex G1 (upd G1 x (mrk os.length)) := ex_new gx
    have um1 : ∀ b, um (upd G1 x (mrk os.length)) b = um G1 b := fun b => by
      by_cases z : b = x
      · subst z
        unfold um
        rw [upd_same, gx]
        rfl
      · unfold um
        rw [upd_ne z]
    refine ⟨upd G1 x (mrk os.length), .obj os.length :: ds, os ++ [.ins c []], fun b o q => ?_, fun b q => ?_, ⟨fun j ob q => ?_, fun a b j qa qb => ?_, fun a j qa => ?_, fun _ _ _ z => by cases z⟩, .cons (.obj upd_same) (rvs.mono eG), by simpa using el, ?_⟩
    · rw [um1] at q
      exact hu b o (R1.gh _ _ q)
    · by_cases z : b = x
      · rw [z, upd_same] at q; cases q
      · rw [upd_ne z]
        rw [upd_ne z] at q
        by_cases z2 : b = dx
        · rw [z2, upd_same] at q; cases q
        · rw [upd_ne z2] at q
          exact R1.gf b q
    · by_cases lj : j < os.length
      · rw [List.getElem?_append_left lj] at q
        obtain ⟨a, q1, q2⟩ := S.at_ j ob q
        exact ⟨a, eG _ _ q1, q2.mono eG hu⟩
      · have : j = os.length := by
          have := (List.getElem?_eq_some_iff.mp q).1
          simp at this
          omega
        subst this
        rw [List.getElem?_append_right (Nat.le_refl _)] at q
        simp at q
        subst q
        exact ⟨x, upd_same, dx, [], upd_same, .nil, by decide⟩
    · by_cases za : a = x
      · by_cases zb : b = x
        · rw [za, zb]
        · rw [za, upd_same] at qa
          rw [upd_ne zb] at qb
          cases qa
          exact absurd (S.lt b _ qb) (Nat.lt_irrefl _)
      · rw [upd_ne za] at qa
        by_cases zb : b = x
        · rw [zb, upd_same] at qb
          cases qb
          exact absurd (S.lt a _ qa) (Nat.lt_irrefl _)
        · rw [upd_ne zb] at qb
          exact S.un a b j qa qb
    · by_cases za : a = x
      · rw [za, upd_same] at qa
        cases qa
        simp
      · rw [upd_ne za] at qa
        have := S.lt a j qa
        simp
        omega
    · cases ef : F (os ++ [.ins c []]) (.obj os.length :: ds) with
      | stuck => rw [ef] at h1; exact h1.elim
      | err c' =>
        rw [ef] at h1
        exact fun H' q => h1 H' (R1.hh.trans fun b o z => q b o (hu b o z)) fun b o z => q b o (hu b o z)
      | ok pr =>
        obtain ⟨d, os'⟩ := pr
        rw [ef] at h1
        cases d with
        | non =>
          intro v G' H' a fr gh gf nw' S' rv
          cases rv with
          | pure r0 =>
            cases r0
            refine ⟨rfl, ?_⟩
            refine (show ∀ G' H', Ex G1 G' → Rel X.K T.G0 (hid G1 T.H0) (setSt T.r os') s G' H' → ∀ v, RpO X.K G' v (.obj os.length) → Q v H' from h1) G' H' (eG.trans a) (R1.after hs (eG.trans a) (fun b o q => ?_) gh gf (fun b o q n => ?_) S') _ (.obj (a _ _ upd_same))
            · obtain ⟨q1, q2⟩ := hid_is q
              refine fr b o (hid_at (hu b o q1) fun u z => ?_)
              rw [upd_ne (ne_of_none q1 hx0)] at z
              exact q2 u z
            · by_cases z : b = x
              · rw [z]; exact hx0
              · have z3 := nw' b o q (by rw [upd_ne z]; exact n)
                rw [upd_ne z] at z3
                by_cases z2 : b = dx
                · rw [z2]; exact hd0
                · rwa [upd_ne z2] at z3
        | _ => exact h1.elim
end
end PL
end
section
namespace PL
open PySem PySem.Spec PyProof.Rows L2
def wSt (r : Rho) : Bool := match r.getLast? with
  | some (.st true _) => true
  | _ => false
theorem wSt_has {r : Rho} (h : wSt r = true) : hasSt r = true := by
  unfold wSt at h
  unfold hasSt
  cases e : r.getLast? with
  | none => rw [e] at h; cases h
  | some x =>
    rw [e] at h
    cases x <;> first | rfl | cases h
theorem wSt_at {r : Rho} (h : wSt r = true) : r[r.length - 1]? = some (.st true (stOf r)) := by
  unfold wSt at h
  rw [← List.getLast?_eq_getElem?]
  unfold stOf
  cases e : r.getLast? with
  | none => rw [e] at h; cases h
  | some x =>
    rw [e] at h
    cases x with
    | st w os => cases w <;> first | rfl | cases h
    | _ => cases h
theorem wSt_set {r : Rho} {os : List Ob} (h : hasSt r = true) : wSt (setSt r os) = true := by
  unfold wSt setSt
  rw [set_last_get h]
section
variable {K : PySem.W.Frag} {G0 H0 G H : Hp} {r : Rho} {s : St}
theorem Rel.sto (R : Rel K G0 H0 r s G H) (h : wSt r = true) : StOk K H0 G H true (stOf r) := R.sl _ _ (wSt_at h)
theorem hid_eq (R : Rel K G0 H0 r s G H) (h : wSt r = true) : hid G H0 = H0 := by
  have S := R.sto h
  funext a
  unfold hid
  cases e : G a with
  | none => rfl
  | some o =>
    show (if isMk o then none else H0 a) = H0 a
    cases m : isMk o with
    | false => rfl
    | true =>
      obtain ⟨k, rfl⟩ := isMk_mrk m
      rw [S.ch a k e rfl]
      rfl
theorem Rel.setOb (R : Rel K G0 H0 r s G H) (h : wSt r = true) {k : Nat} {a : Addr} {o : HO} {ob : Ob} (ha : G a = some (mrk k)) (hk : k < (stOf r).length) (ok : ObOk K G (upd H a o) a ob) : Rel K G0 H0 (setSt r ((stOf r).set k ob)) s G (upd H a o) := by
  have S := R.sto h
  have h0 := S.ch a k ha rfl
  have fr : ∀ b u, hid G H b = some u → upd H a o b = some u := fun b u q => by
    obtain ⟨q1, q2⟩ := hid_is q
    have ne : b ≠ a := fun z => by
      subst z
      cases q2 _ ha
    rw [upd_ne ne]
    exact q1
  have q := R.after (wSt_has h) (Same.refl G) fr (G' := G) (H' := upd H a o) (os := (stOf r).set k ob) (X0 := H0) ?_ (fun b z => R.gf_upd z) (fun b u z n => by rw [z] at n; cases n) ⟨fun j x e => ?_, S.un, fun b j z => by rw [List.length_set]; exact S.lt b j z, fun _ _ _ z => by cases z⟩
  · rw [hid_eq R h] at q
    exact q
  · exact ex_into R.gh (by unfold um; rw [ha]; rfl)
  · by_cases z : k = j
    · subst z
      rw [List.getElem?_set_self hk] at e
      cases e
      exact ⟨a, ha, ok⟩
    · rw [List.getElem?_set_ne z] at e
      obtain ⟨b, e1, e2⟩ := S.at_ j x e
      have ne : b ≠ a := fun q => by
        subst q
        rw [ha] at e1
        cases e1
        exact z rfl
      refine ⟨b, e1, ?_⟩
      cases x with
      | ins c fs =>
        obtain ⟨dx, fvs, q1, q2⟩ := e2
        exact ⟨dx, fvs, by rw [upd_ne ne]; exact q1, q2⟩
      | ls ds =>
        obtain ⟨xs, q1, q2⟩ := e2
        exact ⟨xs, by rw [upd_ne ne]; exact q1, q2⟩
      | tab x q =>
        obtain ⟨q0, ps, q1, q2⟩ := e2
        exact ⟨q0, ps, by rw [upd_ne ne]; exact q1, q2⟩
end
def fAsgM (i : Nat) (f : Rho → R (D × List Ob)) (r : Rho) : R Fl := if wSt r && decide (i + 1 < r.length) then (f r).bnd fun p => .ok (.nx ((setSt r p.2).set i (.im p.1))) else .stuck
theorem KS.bndM {K : PySem.W.Frag} {mg : Str → Option Value} {E : WX} {T : Stt} {Z : Ends} {s : St} {H : Hp} {x : R (D × List Ob)} {k : D × List Ob → R Fl} {P : D → Hp → Hp → Prop} (R : Rl K T s H) (hw : wSt T.r = true) (h : KS K mg E T Z (x.bnd k))
    (hk : ∀ d os G' H', x = .ok (d, os) → Ex T.G G' → Rel K T.G0 T.H0 (setSt T.r os) s G' H' → KS K mg E { T with r := setSt T.r os, G := G' } Z (k (d, os)) → P d G' H') : KM K mg E T s H P x := by
  cases x with
  | ok p =>
    obtain ⟨d, os⟩ := p
    intro G' H' a b
    rw [hid_eq R hw] at b
    exact hk d os G' H' rfl a b (KS.mono (T' := { T with r := setSt T.r os, G := G' }) h rfl rfl a)
  | err c => exact fun H' e0 _ => h s H' e0
  | stuck => exact h
section
variable {X : Cx} {E : WX} {e o : Expr} {f : Rho → R (D × List Ob)} {fo fe : Rho → R D} {pos pos' : Pos} {c fl : Str}
def fSetF (c fl : Str) (fo fe : Rho → R D) (r : Rho) : R Fl := if wSt r then (fe r).bnd fun d => (obD d).bnd fun d => (fo r).bnd fun od => match flds c r od with
  | some (k, fs) => if decide (fs.length < 900) then .ok (.nx (setSt r ((stOf r).set k (.ins c (putFD fl d fs))))) else .stuck
  | none => .stuck else .stuck
theorem ss_fset (hc : Cls X.K (He.ga X.K c)) (hn : NoAttr X.K (He.ga X.K c) fl) (ho : EV X E o fo) (he : EV X E e fe) (hs : swapsWith e (some (.Attribute o fl pos')) pos.line X.env = pure false := by rfl) : SS X E (.Assign [.Attribute o fl pos'] e pos) (fSetF c fl fo fe) :=
  ps_imp (ps_fld ho he hs) fun Z s H ⟨T, R, h⟩ => by
    unfold fSetF at h
    cases ew : wSt T.r with
    | false => rw [ew] at h; exact h.elim
    | true =>
      rw [ew] at h
      refine ⟨T, R, KS.bnd h fun d G1 H1 _ eg eh R1 h1 v rv => ?_⟩
      cases eo : obD d with
      | err c => cases d <;> cases eo
      | stuck => rw [eo] at h1; exact h1.elim
      | ok d' =>
        rw [eo] at h1
        obtain ⟨rfl, no⟩ := obD_ok eo
        refine ⟨{ T with G := G1 }, R1, KS.bnd (T := { T with G := G1 }) (show KS X.K X.mg E { T with G := G1 } Z ((fo T.r).bnd fun od => match flds c T.r od with
          | some (k, fs) => if decide (fs.length < 900) then .ok (.nx (setSt T.r ((stOf T.r).set k (.ins c (putFD fl d' fs))))) else .stuck
          | none => .stuck) from h1) fun od G2 H2 _ eg2 eh2 R2 h2 v2 rv2 => ?_⟩
        cases ef : flds c T.r od with
        | none => rw [ef] at h2; exact h2.elim
        | some p =>
          obtain ⟨k, fs⟩ := p
          rw [ef] at h2
          obtain ⟨_, ek, a, dx, fvs, rfl, q0, q1, q2, q3⟩ := flds_ok (T := { T with G := G2 }) R2 rv2 ef
          simp only at h2
          cases el : decide (fs.length < 900) with
          | false => rw [el] at h2; exact h2.elim
          | true =>
            rw [el] at h2
            have kl : k < (stOf T.r).length := (List.getElem?_eq_some_iff.mp ek).1
            have lf : fvs.length < 900 := by rw [q2.length]; exact of_decide_eq_true el
            refine ⟨a, _, dx, fvs, rfl, q1, hc, hn, by omega, ?_⟩
            have rd := (RpE.ob no rv).mono eg2
            exact h2 s G2 _ (Same.refl _) (R2.setOb ew q0 kl ⟨dx, _, upd_same, q2.put rd, by have := length_putF fl v fvs; omega⟩)
end
theorem setSt_set (r : Rho) (a b : List Ob) : setSt (setSt r a) b = setSt r b := by
  unfold setSt
  rw [List.length_set, List.set_set]
section
variable {X : Cx} {E : WX} {e o : Expr} {fs : Rho → R (List D)} {fo : Rho → R D} {pos pos' : Pos} {c fl : Str}
end
end PL
end
section
namespace PL
open PySem PySem.Spec PyProof.Rows L2
section
variable {X : Cx} {E : WX} {o e : Expr} {fo fe : Rho → R D} {apos cpos pos : Pos}
def fRetM (fe : Rho → R D) (r : Rho) : R Fl := if wSt r then (fe r).bnd fun d => (obD d).bnd fun d => .ok (.rm d (stOf r)) else .stuck
theorem ss_retM (he : EV X E e fe) : SS X E (.Return (some e) pos) (fRetM fe) :=
  ps_imp (ps_ret he) fun Z s H ⟨T, R, h⟩ => by
    unfold fRetM at h
    cases ew : wSt T.r with
    | false => rw [ew] at h; exact h.elim
    | true =>
      rw [ew] at h
      refine ⟨T, R, KS.bnd h fun d G1 H1 _ eg eh R1 h1 v rv => ?_⟩
      cases eo : obD d with
      | err c => cases d <;> cases eo
      | stuck => rw [eo] at h1; exact h1.elim
      | ok d' =>
        rw [eo] at h1
        obtain ⟨rfl, no⟩ := obD_ok eo
        exact h1 v G1 H1 R1.gg R1.hh R1.gh R1.gf R1.nw (Rel.sto (r := T.r) R1 ew) (RpE.ob no rv)
end
def KSM (K : PySem.W.Frag) (mg : Str → Option Value) (E : WX) (T : Stt) (Z : Ends) : R Fl → Prop
  | .ok (.nx r') => ∀ s' G' H', Rel K T.G0 (hid T.G0 T.H0) r' s' G' H' → Z.nx s' H'
  | .ok (.rt d) => ∀ v G' H', Ex T.G0 G' → Ex T.H0 H' → Ex (um G') H' → (∀ a, H' a = none → G' a = none) → (∀ a o, G' a = some o → T.G0 a = none → T.H0 a = none) → Rp K G' v d → Z.rt v H'
  | .ok (.rm d os) => ∀ v G' H', Ex T.G0 G' → Ex (hid T.G0 T.H0) H' → Ex (um G') H' → (∀ a, H' a = none → G' a = none) → (∀ a o, G' a = some o → T.G0 a = none → hid T.G0 T.H0 a = none) → StOk K (hid T.G0 T.H0) G' H' true os → RpO K G' v d → Z.rt v H'
  | .ok _ => False
  | .err c => ∀ s' H', Ex T.H0 H' → E (clsV mg c) none s' H'
  | .stuck => False
def tSM (K : PySem.W.Frag) (mg : Str → Option Value) (E : WX) (f : Rho → R Fl) : TS := fun Z s H => ∃ T, Rl K T s H ∧ hasSt T.r = true ∧ (∀ k, k < (stOf T.r).length → ∃ a, T.G0 a = some (mrk k)) ∧ KSM K mg E T Z (f T.r)
def SSM (X : Cx) (E : WX) (st : List Stmt) (f : Rho → R Fl) : Prop := PSs X st (tSM X.K X.mg E f)
def fSw (g : Rho → R Fl) (r : Rho) : R Fl := if hasSt r then (match g (setSt r (stOf r)) with
  | .ok (.nx r') => .ok (.nx r')
  | .ok (.rm d os) => .ok (.rm d os)
  | _ => .stuck) else .stuck
section
variable {K : PySem.W.Frag} {G0 H0 G H : Hp} {r : Rho} {s : St}
theorem Rel.sw (R : Rel K G0 H0 r s G H) (h : hasSt r = true) : Rel K G0 (hid G H0) (setSt r (stOf r)) s G H := by
  obtain ⟨w, os, el, es⟩ := last_at h
  have S : StOk K H0 G H w os := R.sl _ _ el
  rw [es]
  exact R.after h (Same.refl _) (fun a o q => (hid_is q).1) R.gh R.gf (fun a o q n => by rw [q] at n; cases n) (X0 := H0) ⟨S.at_, S.un, S.lt, fun _ _ _ z => by cases z⟩
theorem no_new (R : Rel K G0 H0 r s G H) (hs : hasSt r = true) (al : ∀ k, k < (stOf r).length → ∃ a, G0 a = some (mrk k)) : ∀ a k, G a = some (mrk k) → G0 a = some (mrk k) := fun a k q => by
  obtain ⟨w, os, el, es⟩ := last_at hs
  have S : StOk K H0 G H w os := R.sl _ _ el
  have l := S.lt a k q
  rw [← es] at l
  obtain ⟨a0, q0⟩ := al k l
  rw [S.un a a0 k q (R.gg _ _ q0)]
  exact q0
theorem hid_same {G G0 H0 : Hp} (eg : Ex G0 G) (nm : ∀ a k, G a = some (mrk k) → G0 a = some (mrk k)) : hid G H0 = hid G0 H0 := by
  funext a
  unfold hid
  cases e0 : G0 a with
  | some u => rw [eg _ _ e0]
  | none =>
    cases e : G a with
    | none => rfl
    | some u =>
      show (if isMk u then none else H0 a) = H0 a
      cases m : isMk u with
      | false => rfl
      | true =>
        obtain ⟨k, rfl⟩ := isMk_mrk m
        rw [nm a k e] at e0
        cases e0
end
section
variable {X : Cx} {E : WX} {st : Stmt} {rest sts : List Stmt} {f g : Rho → R Fl}
theorem ssm_sw (h : SSs X EZ sts g) : SSM X E sts (fSw g) :=
  pss_imp h fun Z s H ⟨T, R, hs, al, h⟩ => by
    unfold fSw at h
    rw [hs] at h
    have R2 := R.sw hs
    rw [hid_same R.gg (no_new R hs al)] at R2
    refine ⟨⟨T.G0, hid T.G0 T.H0, setSt T.r (stOf T.r), T.G⟩, R2, ?_⟩
    show KS X.K X.mg EZ ⟨T.G0, hid T.G0 T.H0, setSt T.r (stOf T.r), T.G⟩ Z (g (setSt T.r (stOf T.r)))
    cases eg : g (setSt T.r (stOf T.r)) with
    | stuck => rw [eg] at h; exact h.elim
    | err c => rw [eg] at h; exact h.elim
    | ok x =>
      rw [eg] at h
      cases x with
      | nx r' => exact fun s' G' H' _ b => h s' G' H' b
      | rm d os => exact h
      | _ => exact h.elim
def fSeqM (f g : Rho → R Fl) (r : Rho) : R Fl := (f r).bnd fun x => match x with
  | .nx r' => if hasSt r' && decide ((stOf r').length ≤ (stOf r).length) then g r' else .stuck
  | .rt d => .ok (.rt d)
  | _ => .stuck
theorem ssm_cons (h1 : SS X E st f) (h2 : SSM X E rest g) : SSM X E (st :: rest) (fSeqM f g) :=
  pss_imp (pss_cons h1 h2) fun Z s H ⟨T, R, hs, al, h⟩ => ⟨T, R, by
    unfold fSeqM at h
    cases e : f T.r with
    | ok x =>
      rw [e] at h
      cases x with
      | nx r' =>
        have h3 : KSM X.K X.mg E T Z (if hasSt r' && decide ((stOf r').length ≤ (stOf T.r).length) then g r' else .stuck) := h
        cases ec : (hasSt r' && decide ((stOf r').length ≤ (stOf T.r).length)) with
        | false => rw [ec] at h3; exact h3.elim
        | true =>
          rw [ec] at h3
          rw [Bool.and_eq_true, decide_eq_true_iff] at ec
          intro s' G' H' a b
          exact ⟨⟨T.G0, T.H0, r', G'⟩, b, ec.1, fun k hk => al k (by have h9 : k < (stOf r').length := hk; omega), h3⟩
      | bk r' => exact h.elim
      | ct r' => exact h.elim
      | rt d => exact h
      | rm d os => exact h.elim
    | err c => rw [e] at h; exact h
    | stuck => rw [e] at h; exact h⟩
end
def runM (fb : Rho → R Fl) (n : Nat) (os : List Ob) (ds : List D) : R (D × List Ob) := match fb (ds.map .im ++ List.replicate (n - ds.length) .un ++ [.st false os]) with
  | .ok (.nx r') => if hasSt r' then .ok (.non, stOf r') else .stuck
  | .ok (.rt d) => .ok (d, os)
  | .ok (.rm d os') => .ok (d, os')
  | .ok _ => .stuck
  | .err c => .err c
  | .stuck => .stuck
theorem st_last (r : List Sl) (w : Bool) (os : List Ob) : hasSt (r ++ [.st w os]) = true ∧ stOf (r ++ [.st w os]) = os := by
  unfold hasSt stOf
  rw [List.getLast?_append]
  exact ⟨rfl, rfl⟩
theorem run_redM {K : PySem.W.Frag} {mg : Str → Option Value} {E : XK} {N : List Str} {vs : List V} {n : Nat} {H : Hp} {Q : VK} {fb : Rho → R Fl} (hl : n ≤ N.length) (h : spM K mg n (runM fb N.length) vs H Q E) : tSM K mg (fun cls d _ H => E cls d H) fb { nx := fun _ H' => Q .non H', rt := Q } (start N vs) H := by
  obtain ⟨G, ds, os, e, gf, S, r, hn, h⟩ := h
  obtain ⟨hs, es⟩ := st_last (ds.map Sl.im ++ List.replicate (N.length - ds.length) Sl.un) false os
  refine ⟨⟨G, H, ds.map .im ++ List.replicate (N.length - ds.length) .un ++ [.st false os], G⟩, rel_startO (N := N) (by rw [r.length, hn]; exact hl) (Same.refl _) e gf r S, hs, fun k hk => ?_, ?_⟩
  · have hk2 : k < os.length := by rw [← es]; exact hk
    obtain ⟨a, q, _⟩ := S.at_ k _ (List.getElem?_eq_getElem hk2)
    exact ⟨a, q⟩
  unfold runM at h
  show KSM K mg (fun cls d _ H => E cls d H) ⟨G, H, _, G⟩ _ (fb (ds.map .im ++ List.replicate (N.length - ds.length) .un ++ [.st false os]))
  have hn0 : ∀ a, G a = none → hid G H a = none → H a = none := fun a q z => by
    unfold hid at z
    rw [q] at z
    exact z
  cases e2 : fb (ds.map .im ++ List.replicate (N.length - ds.length) .un ++ [.st false os]) with
  | err c => rw [e2] at h; exact fun _ => h
  | stuck => rw [e2] at h; exact h
  | ok x =>
    rw [e2] at h
    cases x with
    | nx r' =>
      simp only at h
      cases eh : hasSt r' with
      | false => rw [eh] at h; exact h.elim
      | true =>
        rw [eh] at h
        intro s' G' H' b
        obtain ⟨w, os', el, es'⟩ := last_at eh
        have S' : StOk K (hid G H) G' H' w os' := b.sl _ _ el
        refine (show PostM K G H .non (stOf r') Q from h) .non G' H' b.gg (fun a o q => b.hh _ _ q) b.gh b.gf (fun a o q z => hn0 a z (b.nw a o q z)) ?_ (.pure .non)
        rw [es']
        exact ⟨S'.at_, S'.un, S'.lt, fun _ _ _ z => by cases z⟩
    | bk r' => exact h.elim
    | ct r' => exact h.elim
    | rt d =>
      intro v G' H' eg eh gh gf' nw rv
      have e3 : Ex (um G') (gUn G (um G')) := fun a o q => by
        unfold gUn
        cases e : G a with
        | none => exact q
        | some u =>
          show some u = some o
          have z := eg _ _ e
          rw [(um_is q).1] at z
          exact z.symm
      have mk : ∀ a k, gUn G (um G') a = some (mrk k) → G a = some (mrk k) := fun a k q => by
        unfold gUn at q
        cases e : G a with
        | some u => rw [e] at q; exact q
        | none =>
          rw [e] at q
          cases (um_is q).2
      refine (show PostM K G H d os Q from h) v (gUn G (um G')) H' (gUn_l _ _) (fun a o q => eh _ _ (hid_is q).1) (fun a o q => ?_) (fun a q => ?_) (fun a o q n => ?_) (S.mono (gUn_l _ _) eh mk) (.pure (rv.um.mono e3))
      · obtain ⟨q, m⟩ := um_is q
        unfold gUn at q
        cases e : G a with
        | some u =>
          rw [e] at q
          cases q
          exact gh _ _ (um_of (eg _ _ e) m)
        | none =>
          rw [e] at q
          exact gh _ _ q
      · have z := gf' a q
        unfold gUn
        cases e : G a with
        | some u => rw [eg _ _ e] at z; cases z
        | none => exact um_none z
      · unfold gUn at q
        rw [n] at q
        exact nw a o (um_is q).1 n
    | rm d os' =>
      intro v G' H' eg eh gh gf' nw S' rv
      exact (show PostM K G H d os' Q from h) v G' H' eg (fun a o q => eh _ _ q) gh gf' (fun a o q z => hn0 a z (nw a o q z)) ⟨S'.at_, S'.un, S'.lt, fun _ _ _ z => by cases z⟩ rv
section
variable {P : Program} {w : World} {K : PySem.W.Frag} {mg : Str → Option Value} {base : Heap}
theorem fn_okM {x qual : Str} {params : Arguments} {body : List Stmt} {scope : Scope} {f : Addr} {fd : FuncData} {N ps : List Str} {k : Nat} {fb : Rho → R Fl} (F : FunD K x qual params body scope [] [] f fd) (S : FnScope N ps scope)
    (hbody : ∀ (cdv : Value) (A : Around) (outer : List Env) (s : Shared) (H : Hp) (E : XK), Cxt (cxOf (L2.CX P w) P w K mg base N qual scope f cdv A outer s H E) (fun cls d _ H => E cls d H) k → SSM (cxOf (L2.CX P w) P w K mg base N qual scope f cdv A outer s H E) (fun cls d _ H => E cls d H) body fb) :
    FnOk P w K mg base (L2.CX P w) (k + 1) f fd ps (spM K mg ps.length (runM fb N.length)) := by
  refine F.ok S (fun vs H Q E h => ?_) fun cdv A outer s H vs Q E hr h => ?_
  · obtain ⟨G, ds, os, _, _, _, r, hn, _⟩ := h
    rw [r.length, hn]
  · have tk : Takes (cxOf (L2.CX P w) P w K mg base N qual scope f cdv A outer s H E) (fun cls d _ H => E cls d H) := takes_of rfl rfl rfl rfl
    exact ⟨_, hbody cdv A outer s H E ⟨hr, fun σ => passAt tk σ, rfl, S.nd, passes_of rfl, tk⟩, run_redM (pre_len S) h⟩
end
end PL
end
section
namespace PL
open PySem PySem.Spec PyProof.Rows L2
def KX {α : Type} (K : PySem.W.Frag) (mg : Str → Option Value) (E : WX) (T : Stt) (s : St) (P : α → Rho → Hp → Hp → Prop) : R (α × Rho) → Prop
  | .ok (d, r') => ∀ G' H', Ex T.G G' → Rel K T.G0 T.H0 r' s G' H' → P d r' G' H'
  | .err c => ∀ H', Ex T.H0 H' → E (clsV mg c) none s H'
  | .stuck => False
def tEX (K : PySem.W.Frag) (mg : Str → Option Value) (E : WX) (f : Rho → R (D × Rho)) : TE := fun s H Q => ∃ T, Rl K T s H ∧ wSt T.r = true ∧ KX K mg E T s (fun d _ G' H' => ∀ v, RpE K G' s v d → Q v H') (f T.r)
def tTX (K : PySem.W.Frag) (mg : Str → Option Value) (E : WX) (f : Rho → R (Bool × Rho)) : TT := fun s H Q => ∃ T, Rl K T s H ∧ wSt T.r = true ∧ KX K mg E T s (fun b _ _ H' => Q b H') (f T.r)
def EVX (X : Cx) (E : WX) (e : Expr) (f : Rho → R (D × Rho)) : Prop := PE X e (tEX X.K X.mg E f)
def ETX (X : Cx) (E : WX) (e : Expr) (f : Rho → R (Bool × Rho)) : Prop := PT X e (tTX X.K X.mg E f)
def EWX (X : Cx) (E : WX) (e : Expr) (f : Rho → R (Bool × Rho)) : Prop := PW X e (tTX X.K X.mg E f)
section
variable {K : PySem.W.Frag} {mg : Str → Option Value} {E : WX} {α β : Type}
theorem KX.bnd {T : Stt} {s : St} {x : R (α × Rho)} {k : α × Rho → R (β × Rho)} {P : β → Rho → Hp → Hp → Prop} {P' : α → Rho → Hp → Hp → Prop} (h : KX K mg E T s P (x.bnd k))
    (hk : ∀ d r' G' H', x = .ok (d, r') → Ex T.G G' → Rel K T.G0 T.H0 r' s G' H' → KX K mg E { T with r := r', G := G' } s P (k (d, r')) → P' d r' G' H') : KX K mg E T s P' x := by
  cases x with
  | ok p =>
    obtain ⟨d, r'⟩ := p
    intro G' H' eg R'
    refine hk d r' G' H' rfl eg R' ?_
    have h2 : KX K mg E T s P (k (d, r')) := h
    cases q : k (d, r') with
    | ok b =>
      obtain ⟨b, r2⟩ := b
      rw [q] at h2
      intro G2 H2 eg2 R2
      exact h2 G2 H2 (eg.trans eg2) R2
    | err c => rw [q] at h2; exact h2
    | stuck => rw [q] at h2; exact h2
  | err c => exact h
  | stuck => exact h
theorem KX.bndE {γ : Type} {T : Stt} {s : St} {H : Hp} {x : R γ} {k : γ → R (β × Rho)} {P : β → Rho → Hp → Hp → Prop} {P' : γ → Hp → Hp → Prop} (h : KX K mg E T s P (x.bnd k))
    (hk : ∀ d G' H', x = .ok d → Ex T.G G' → Ex H H' → Nw T.G G' H → Rel K T.G0 T.H0 T.r s G' H' → KX K mg E { T with G := G' } s P (k d) → P' d G' H') : KE K mg E T s H P' x := by
  cases x with
  | ok d =>
    intro G' H' eg eh nw R'
    refine hk d G' H' rfl eg eh nw R' ?_
    have h2 : KX K mg E T s P (k d) := h
    cases q : k d with
    | ok b =>
      obtain ⟨b, r2⟩ := b
      rw [q] at h2
      intro G2 H2 eg2 R2
      exact h2 G2 H2 (eg.trans eg2) R2
    | err c => rw [q] at h2; exact h2
    | stuck => rw [q] at h2; exact h2
  | err c => exact fun H' e _ => h H' e
  | stuck => exact h
theorem KX.bndM {T : Stt} {s : St} {H : Hp} {x : R (D × List Ob)} {k : D × List Ob → R (β × Rho)} {P : β → Rho → Hp → Hp → Prop} {P' : D → Hp → Hp → Prop} (R : Rl K T s H) (hw : wSt T.r = true) (h : KX K mg E T s P (x.bnd k))
    (hk : ∀ d os G' H', x = .ok (d, os) → Ex T.G G' → Rel K T.G0 T.H0 (setSt T.r os) s G' H' → KX K mg E { T with r := setSt T.r os, G := G' } s P (k (d, os)) → P' d G' H') : KM K mg E T s H P' x := by
  cases x with
  | ok p =>
    obtain ⟨d, os⟩ := p
    intro G' H' eg R'
    rw [hid_eq R hw] at R'
    refine hk d os G' H' rfl eg R' ?_
    have h2 : KX K mg E T s P (k (d, os)) := h
    cases q : k (d, os) with
    | ok b =>
      obtain ⟨b, r2⟩ := b
      rw [q] at h2
      intro G2 H2 eg2 R2
      exact h2 G2 H2 (eg.trans eg2) R2
    | err c => rw [q] at h2; exact h2
    | stuck => rw [q] at h2; exact h2
  | err c => exact fun H' e _ => h H' e
  | stuck => exact h
theorem KX.here {T : Stt} {s : St} {H : Hp} {P : α → Rho → Hp → Hp → Prop} {d : α} {r : Rho} (h : KX K mg E T s P (.ok (d, r))) (R : Rel K T.G0 T.H0 r s T.G H) : P d r T.G H := h T.G H (Same.refl _) R
theorem KX.ifW {T : Stt} {s : St} {c : Bool} {x : R (α × Rho)} {P : α → Rho → Hp → Hp → Prop} (h : KX K mg E T s P (if c then x else .stuck)) : c = true ∧ KX K mg E T s P x := by
  cases c with
  | true => exact ⟨rfl, h⟩
  | false => exact h.elim
end
def fXm (f : Rho → R (D × List Ob)) (r : Rho) : R (D × Rho) := (f r).bnd fun p => .ok (p.1, setSt r p.2)
def fXe (f : Rho → R D) (r : Rho) : R (D × Rho) := (f r).bnd fun d => .ok (d, r)
def fBinX (g : Rho → D → D → R D) (fa fb : Rho → R (D × Rho)) (r : Rho) : R (D × Rho) := (fa r).bnd fun p => if wSt p.2 then (fb p.2).bnd fun q => (g q.2 p.1 q.1).bnd fun z => .ok (z, q.2) else .stuck
def fTestX (f : Rho → R (D × Rho)) (r : Rho) : R (Bool × Rho) := (f r).bnd fun p => (boolOf p.1).bnd fun b => .ok (b, p.2)
def fXt (f : Rho → R Bool) (r : Rho) : R (Bool × Rho) := (f r).bnd fun b => .ok (b, r)
section
variable {X : Cx} {E : WX} {a b e : Expr} {rest : List Expr} {f : Rho → R (D × List Ob)} {fe : Rho → R D} {fa fb : Rho → R (D × Rho)} {ga gb : Rho → R (Bool × Rho)} {gt : Rho → R Bool} {pos : Pos}
theorem EVM.x (h : EVM X E e f) : EVX X E e (fXm f) := pe_imp h fun s H Q ⟨T, R, hw, h⟩ => ⟨T, R, wSt_has hw, KX.bndM R hw h fun d os G' H' _ eg R' h1 v rv => KX.here (T := { T with r := setSt T.r os, G := G' }) h1 R' v rv.e⟩
theorem EV.x (h : EV X E e fe) : EVX X E e (fXe fe) := pe_imp h fun s H Q ⟨T, R, hw, h⟩ => ⟨T, R, KX.bndE h fun d G' H' _ eg _ _ R' h1 v rv => KX.here (T := { T with G := G' }) h1 R' v rv⟩
theorem ET.x (h : ET X E e gt) : ETX X E e (fXt gt) := pt_imp h fun s H Q ⟨T, R, hw, h⟩ => ⟨T, R, KX.bndE h fun d G' H' _ eg _ _ R' h1 => KX.here (T := { T with G := G' }) h1 R'⟩
theorem opx_red {K : PySem.W.Frag} {mg : Str → Option Value} {r : R2} {g : Rho → D → D → R D} (hg : OpS K r g) {s : St} {H : Hp} {Q : VK} (h : tEX K mg E (fBinX g fa fb) s H Q) : tOp r (tEX K mg E fa) (tEX K mg E fb) s H Q := by
  obtain ⟨T, R, hw, h⟩ := h
  refine ⟨T, R, hw, KX.bnd h fun d r1 G1 H1 _ eg R1 h1 v rv => ?_⟩
  obtain ⟨hw1, h1⟩ := KX.ifW h1
  refine ⟨{ T with r := r1, G := G1 }, R1, hw1, KX.bnd h1 fun d2 r2 G2 H2 _ eg2 R2 h2 v2 rv2 => ?_⟩
  exact hg mg E { T with r := r2, G := G2 } s H2 v v2 d d2 Q R2 (rv.mono eg2) rv2 (KX.bndE h2 fun z G3 H3 _ eg3 _ _ R3 h3 v3 rv3 => KX.here (T := { T with r := r2, G := G3 }) h3 R3 v3 rv3)
theorem evx_op {op : Operator} {r : R2} {g : Rho → D → D → R D} (ho : OpR X (binaryOp op) r) (hg : OpS X.K r g) (ha : EVX X E a fa) (hb : EVX X E b fb) : EVX X E (.BinOp a op b pos) (fBinX g fa fb) :=
  pe_imp (pe_op ho ha hb) fun s H Q h => opx_red hg h
theorem tEX_test {K : PySem.W.Frag} {mg : Str → Option Value} {s : St} {H : Hp} {Q : Bool → Hp → Prop} (h : tTX K mg E (fTestX fa) s H Q) : tEX K mg E fa s H (fun x H' => ∃ k, x = .bl k ∧ Q k H') := by
  obtain ⟨T, R, hw, h⟩ := h
  refine ⟨T, R, hw, KX.bnd h fun d r1 G1 H1 _ eg R1 h1 v rv => ?_⟩
  cases d with
  | bl b =>
    cases (show Rp K G1 v (.bl b) from rv)
    exact ⟨b, rfl, KX.here (T := { T with r := r1, G := G1 }) h1 R1⟩
  | _ => exact h1.elim
theorem etx_cmp {op : CmpOp} {r : R2} {g : Rho → D → D → R D} (ho : OpR X (compareOp op) r) (hg : OpS X.K r g) (ha : EVX X E a fa) (hb : EVX X E b fb) (hm : behindInMarks op b = false) : ETX X E (.Compare a [op] [b] pos) (fTestX (fBinX g fa fb)) :=
  pt_imp (pt_cmpR ho ha hb hm) fun s H Q h => opx_red hg (tEX_test h)
theorem EWX.et (h : EWX X E a ga) : ETX X E a ga := PW.pt h
end
theorem KS.bndX {α : Type} {K : PySem.W.Frag} {mg : Str → Option Value} {E : WX} {T : Stt} {Z : Ends} {s : St} {x : R (α × Rho)} {k : α × Rho → R Fl} {P : α → Rho → Hp → Hp → Prop} (h : KS K mg E T Z (x.bnd k))
    (hk : ∀ d r' G' H', x = .ok (d, r') → Ex T.G G' → Rel K T.G0 T.H0 r' s G' H' → KS K mg E { T with r := r', G := G' } Z (k (d, r')) → P d r' G' H') : KX K mg E T s P x := by
  cases x with
  | ok p =>
    obtain ⟨d, r'⟩ := p
    intro G' H' a b
    exact hk d r' G' H' rfl a b (KS.mono (T' := { T with r := r', G := G' }) h rfl rfl a)
  | err c => exact fun H' e0 => h s H' e0
  | stuck => exact h
theorem KS.ifW {K : PySem.W.Frag} {mg : Str → Option Value} {E : WX} {T : Stt} {Z : Ends} {c : Bool} {x : R Fl} (h : KS K mg E T Z (if c then x else .stuck)) : c = true ∧ KS K mg E T Z x := by
  cases c with
  | true => exact ⟨rfl, h⟩
  | false => exact h.elim
def fIfX (fc : Rho → R (Bool × Rho)) (f1 f2 : Rho → R Fl) (r : Rho) : R Fl := if wSt r then (fc r).bnd fun p => if p.1 then f1 p.2 else f2 p.2 else .stuck
def fAsgX (i : Nat) (f : Rho → R (D × Rho)) (r : Rho) : R Fl := if wSt r then (f r).bnd fun p => (obD p.1).bnd fun d => .ok (.nx (p.2.set i (.im d))) else .stuck
section
variable {X : Cx} {E : WX} {a b e o : Expr} {fa : Rho → R (D × Rho)} {ga : Rho → R (Bool × Rho)} {f1 f2 : Rho → R Fl} {b1 b2 : List Stmt} {pos pos' : Pos}
theorem ss_ifX (hc : ETX X E e ga) (h1 : SSs X E b1 f1) (h2 : SSs X E b2 f2) : SS X E (.If e b1 b2 pos) (fIfX ga f1 f2) :=
  ps_imp (ps_if hc h1 h2) fun Z s H ⟨T, R, h⟩ => by
    obtain ⟨hw, h⟩ := KS.ifW h
    refine ⟨T, R, hw, KS.bndX h fun k r1 G1 H1 _ eg R1 h1 => ?_⟩
    cases k with
    | true => exact ⟨{ T with r := r1, G := G1 }, R1, h1⟩
    | false => exact ⟨{ T with r := r1, G := G1 }, R1, h1⟩
theorem ss_setX (i : Nat) {x : Str} (hN : X.N.Nodup) (he : EVX X E e fa) (hi : X.N[i]? = some x := by rfl) (hx : Loc X.env.scope x := by first | exact Or.inl rfl | exact Or.inr rfl) (hs : swapsWith e (some (.Name x pos')) pos.line X.env = pure false := by rfl) (hf : X.fn x = true ∨ X.env.scope.names.lookup x = some .local := by first | exact .inl rfl | exact .inr rfl | assumption) :
    SS X E (.Assign [.Name x pos'] e pos) (fAsgX i fa) :=
  ps_impL (ps_set hN hi hx he hs hf) fun Z s H sl ⟨T, R, h⟩ => by
    obtain ⟨hw, h⟩ := KS.ifW h
    refine ⟨T, R, hw, KS.bndX h fun d r1 G1 H1 _ eg R1 h1 v rv => ?_⟩
    cases eo : obD d with
    | err c => cases d <;> cases eo
    | stuck => rw [eo] at h1; exact h1.elim
    | ok d' =>
      rw [eo] at h1
      obtain ⟨rfl, no⟩ := obD_ok eo
      exact h1 _ G1 H1 (Same.refl _) (R1.setIm (RpE.ob no rv) (n_lt hi sl))
end
end PL
end
section
namespace PL
open PySem PySem.Spec PyProof.Rows L2
def fTupO (fs : Rho → R (List D)) (r : Rho) : R D := (fs r).bnd fun ds => if szD ds then .ok (.tpo ds) else .stuck
theorem ev_tupO {X : Cx} {E : WX} {es : List Expr} {fs : Rho → R (List D)} {x1} {pos : Pos} (h : EAo X E es fs) : EV X E (.Tuple es x1 pos) (fTupO fs) :=
  pe_imp (pe_tup h) fun s H Q ⟨T, R, h⟩ => ⟨T, R, KE.bnd h fun ds G1 H1 _ eg eh R1 h1 vs rvs => by
    cases e : szD ds with
    | false => rw [e] at h1; exact h1.elim
    | true =>
      rw [e] at h1
      have h2 : KE X.K X.mg E { T with G := G1 } s H1 (fun d G' H' => ∀ v, RpE X.K G' s v d → Q v H') (.ok (.tpo ds)) := h1
      refine ⟨by rw [rvs.length]; exact of_decide_eq_true e, fun p hp => ?_⟩
      exact KE.new h2 R1 hp _ (RpO.tpo (SqT.of upd_same) (rvs.mono (ex_new (R1.gf _ hp))))⟩
def tXX (K : PySem.W.Frag) (mg : Str → Option Value) (E : WX) (f : Rho → R (List Sl × Rho)) : TA := fun s H Q => ∃ T, Rl K T s H ∧ wSt T.r = true ∧ KX K mg E T s (fun ss r' G' H' => ∀ vs ps Hm, RpS K Hm G' H' vs ss ps → (∀ p ∈ ps, FreeAt r' s p ∧ T.H0 p = none) → Q vs H') (f T.r)
def EXX (X : Cx) (E : WX) (es : List Expr) (f : Rho → R (List Sl × Rho)) : Prop := PA X es (tXX X.K X.mg E f)
def fXX (fs : Rho → R (List Sl)) (r : Rho) : R (List Sl × Rho) := (fs r).bnd fun ss => .ok (ss, r)
def fConsX (f : Rho → R (D × Rho)) (fs : Rho → R (List Sl × Rho)) (r : Rho) : R (List Sl × Rho) := (f r).bnd fun p => (obD p.1).bnd fun d => if wSt p.2 then (fs p.2).bnd fun q => .ok (.im d :: q.1, q.2) else .stuck
section
variable {X : Cx} {E : WX} {a : Expr} {es : List Expr} {fa : Rho → R (D × Rho)} {fs : Rho → R (List Sl)} {fx : Rho → R (List Sl × Rho)}
theorem EX.x (h : EX X E es fs) : EXX X E es (fXX fs) := pa_imp h fun s H Q ⟨T, R, hw, h⟩ => ⟨T, R, KX.bndE h fun ss G' H' _ eg _ _ R' h1 vs ps rs => by
  refine KX.here (T := { T with G := G' }) h1 R' vs ps H rs fun p hp => ⟨fun k o => ?_, R.hh.free (rs.none p hp)⟩
  obtain ⟨⟨u, q⟩, _⟩ := own_in R o
  rw [rs.none p hp] at q
  cases q⟩
theorem exx_cons (ha : EVX X E a fa) (hr : EXX X E es fx) (hs : starEach (a :: es) X.env = (false, eval a X.env) :: starEach es X.env := by rfl) : EXX X E (a :: es) (fConsX fa fx) :=
  pa_imp (pa_cons ha hr hs) fun s H Q ⟨T, R, hw, h⟩ => ⟨T, R, hw, KX.bnd h fun d r1 G1 H1 _ eg R1 h1 v rv => by
    cases eo : obD d with
    | err c => cases d <;> cases eo
    | stuck => rw [eo] at h1; exact h1.elim
    | ok d' =>
      rw [eo] at h1
      obtain ⟨rfl, no⟩ := obD_ok eo
      have h2 : KX X.K X.mg E { T with r := r1, G := G1 } s _ (if wSt r1 then (fx r1).bnd fun q => .ok (.im d' :: q.1, q.2) else .stuck) := h1
      obtain ⟨hw1, h2⟩ := KX.ifW h2
      exact ⟨{ T with r := r1, G := G1 }, R1, hw1, KX.bnd h2 fun ss r2 G2 H2 _ eg2 R2 h3 vs ps Hm rs hp => KX.here (T := { T with r := r2, G := G2 }) h3 R2 (v :: vs) ps Hm (.im ((RpE.ob no rv).mono eg2) rs) hp⟩⟩
end
def fParXX (is : List Nat) (fs : Rho → R (List Sl × Rho)) (r : Rho) : R Fl := if wSt r then (fs r).bnd fun p => if decide (p.1.length = is.length) then .ok (.nx (setAll is p.1 p.2)) else .stuck else .stuck
section
variable {X : Cx} {E : WX} {pos : Pos} {x y z : Str} {a b c : Expr} {fs : Rho → R (List Sl × Rho)} {px py pz pt : Pos} {kt k2 : Nat} {pt2 : Pos}
theorem RpS.len {K : PySem.W.Frag} {H G1 H1 : Hp} {vs : List V} {ss : List Sl} {ps : List Addr} (q : RpS K H G1 H1 vs ss ps) : vs.length = ss.length := by
  induction q with
  | nil => rfl
  | im _ _ ih => rw [List.length_cons, List.length_cons, ih]
  | ol _ _ _ _ _ _ ih => rw [List.length_cons, List.length_cons, ih]
  | od _ _ _ _ _ _ ih => rw [List.length_cons, List.length_cons, ih]
theorem parXX_red {is : List Nat} {Z : Ends} {s : St} {H : Hp} (hlt : ∀ i ∈ is, i < s.length) (h : tS X.K X.mg E (fParXX is fs) Z s H) : tXX X.K X.mg E fs s H fun vs H1 => vs.length = is.length ∧ Z.nx (putAll is vs s) H1 := by
  obtain ⟨T, R, h⟩ := h
  obtain ⟨hw, h⟩ := KS.ifW h
  refine ⟨T, R, hw, KS.bndX h fun ss r1 G1 H1 _ eg R1 h1 vs ps Hm rs hp => ?_⟩
  obtain ⟨l1, h1⟩ := KS.ifW h1
  have l1 := of_decide_eq_true l1
  exact ⟨rs.len.trans l1, h1 _ G1 H1 (Same.refl _) (Rel.setAll rs R1 hlt hp l1.symm)⟩
theorem ss_parXX (i j : Nat) (hc : X.calm = true) (hN : X.N.Nodup) (ha : EXX X E [a, b] fs) (hi : X.N[i]? = some x := by rfl) (hj : X.N[j]? = some y := by rfl) (hij : i ≠ j := by decide)
    (hx : X.env.scope.names.lookup x = some .local := by rfl) (hy : X.env.scope.names.lookup y = some .local := by rfl)
    (hw : swappedStores [.Tuple [.Name x px, .Name y py] kt pt] (.Tuple [a, b] k2 pt2) X.env = pure (some [x, y]) := by rfl)
    (hs : swapsWithSole [.Tuple [.Name x px, .Name y py] kt pt] (.Tuple [a, b] k2 pt2) pos.line X.env = pure false := by rfl) :
    SS X E (.Assign [.Tuple [.Name x px, .Name y py] kt pt] (.Tuple [a, b] k2 pt2) pos) (fParXX [i, j] fs) :=
  ps_impL (ps_par hc hN hi hj hij hx hy ha hw hs) fun Z s H sl h => by
    obtain ⟨T, R, hw, h⟩ := parXX_red (fun q hq => by
      simp only [List.mem_cons, List.not_mem_nil, or_false] at hq
      rcases hq with rfl | rfl
      · exact n_lt hi sl
      · exact n_lt hj sl) h
    refine ⟨T, R, hw, ?_⟩
    cases e : fs T.r with
    | ok p =>
      rw [e] at h
      intro G' H' eg R' vs ps Hm rs hp
      obtain ⟨l, q⟩ := h G' H' eg R' vs ps Hm rs hp
      match vs, l with
      | [v, w], _ => exact ⟨v, w, rfl, q⟩
    | err c => rw [e] at h; exact h
    | stuck => rw [e] at h; exact h
end
def tAX (K : PySem.W.Frag) (mg : Str → Option Value) (E : WX) (f : Rho → R (List D × Rho)) : TA := fun s H Q => ∃ T, Rl K T s H ∧ wSt T.r = true ∧ KX K mg E T s (fun ds _ G' H' => ∀ vs, RpA K G' vs ds → Q vs H') (f T.r)
def EAX (X : Cx) (E : WX) (es : List Expr) (f : Rho → R (List D × Rho)) : Prop := PA X es (tAX X.K X.mg E f)
def fNilX (r : Rho) : R (List D × Rho) := .ok ([], r)
def fConsAX (f : Rho → R (D × Rho)) (fs : Rho → R (List D × Rho)) (r : Rho) : R (List D × Rho) := (f r).bnd fun p => (imD p.1).bnd fun d => if wSt p.2 then (fs p.2).bnd fun q => .ok (d :: q.1, q.2) else .stuck
def tNX (K : PySem.W.Frag) (mg : Str → Option Value) (E : WX) (f : Rho → R (List D × Rho)) : TE := fun s H Q => ∃ T, Rl K T s H ∧ wSt T.r = true ∧ KX K mg E T s (fun ds r' G' H' => ∀ p xs, FreeAt r' s p → T.H0 p = none → H' p = some (.lst xs) → G' p = none → RpA K G' xs ds → Q (.ref p) H') (f T.r)
def ENX (X : Cx) (E : WX) (e : Expr) (f : Rho → R (List D × Rho)) : Prop := PE X e (tNX X.K X.mg E f)
def fSzX (fs : Rho → R (List D × Rho)) (r : Rho) : R (List D × Rho) := (fs r).bnd fun p => if szD p.1 then .ok p else .stuck
def fLX (fs : Rho → R (List D × Rho)) (r : Rho) : R (D × Rho) := (fs r).bnd fun p => .ok (.lst p.1, p.2)
section
variable {X : Cx} {E : WX} {a e : Expr} {es : List Expr} {fa : Rho → R (D × Rho)} {fs : Rho → R (List D × Rho)} {pos pos' : Pos}
theorem eax_nil : EAX X E [] fNilX := pa_imp pa_nil fun s H Q ⟨T, R, hw, h⟩ => KX.here (T := T) h R [] .nil
theorem eax_cons (ha : EVX X E a fa) (hr : EAX X E es fs) (hs : starEach (a :: es) X.env = (false, eval a X.env) :: starEach es X.env := by rfl) : EAX X E (a :: es) (fConsAX fa fs) :=
  pa_imp (pa_cons ha hr hs) fun s H Q ⟨T, R, hw, h⟩ => ⟨T, R, hw, KX.bnd h fun d r1 G1 H1 _ eg R1 h1 v rv => by
    unfold imD at h1
    cases e6 : noOwn d with
    | false => rw [e6] at h1; exact h1.elim
    | true =>
      rw [e6] at h1
      have h2 : KX X.K X.mg E { T with r := r1, G := G1 } s _ (if wSt r1 then (fs r1).bnd fun q => .ok (d :: q.1, q.2) else .stuck) := h1
      obtain ⟨hw1, h2⟩ := KX.ifW h2
      exact ⟨{ T with r := r1, G := G1 }, R1, hw1, KX.bnd h2 fun ds r2 G2 H2 _ eg2 R2 h3 vs rs => KX.here (T := { T with r := r2, G := G2 }) h3 R2 _ (.cons ((RpE.im e6 rv).mono eg2) rs)⟩⟩
theorem enx_lst (h : EAX X E es fs) : ENX X E (.List es pos) (fSzX fs) :=
  pe_imp (pe_lst h) fun s H Q ⟨T, R, hw, h⟩ => ⟨T, R, hw, KX.bnd h fun ds r1 G1 H1 _ eg R1 h1 vs rvs => by
    obtain ⟨e, h1⟩ := KX.ifW h1
    refine ⟨by rw [rvs.length]; exact of_decide_eq_true e, fun p hp => ?_⟩
    have R2 := R1.lay (o := .lst vs) hp
    exact h1 G1 _ (Same.refl _) R2 p vs (fun k o => by
      obtain ⟨⟨u, q⟩, _⟩ := own_in R1 o
      rw [hp] at q
      cases q) (R1.hh.free hp) upd_same (R1.gf _ hp) rvs⟩
theorem ENX.x (h : ENX X E e fs) : EVX X E e (fLX fs) :=
  pe_imp h fun s H Q ⟨T, R, hw, h⟩ => ⟨T, R, hw, KX.bnd h fun ds r1 G1 H1 _ eg R1 h1 p xs hf h0 hp hg hr => by
    have eG := ex_new (o := HO.lst xs) hg
    have h2 : KX X.K X.mg E { T with r := r1, G := G1 } s (fun d _ G' H' => ∀ v, RpE X.K G' s v d → Q v H') (.ok (D.lst ds, r1)) := h1
    exact h2 (upd G1 p (.lst xs)) H1 eG (R1.freeze hp h0 hg hf) _ (Rp.lst upd_same (hr.mono eG))⟩
end
end PL
end
section
namespace PL
open PySem PySem.Spec PyProof.Rows L2
section
variable {P : Program} {w : World} {K : PySem.W.Frag} {mg : Str → Option Value} {base : Heap} {x c m qual : Str} {params : Arguments} {body : List Stmt} {scope : Scope} {f : Addr} {fd : FuncData} {N ps : List Str} {k : Nat} {fb : Rho → R Fl}
theorem fnR_def (F : FunD K x x params body scope [] [] f fd) (hm : mg x = some (.ref f)) (S : FnScope N ps scope)
    (hb : ∀ (kV doc pm : Value) (an : Option Addr) (cdv ct : Value) (us : List Value), us.length = ps.length → bindArgs (PySem.W.fnOf x x params body scope .none kV doc pm an cdv ct) ⟨us, []⟩ = pure (ps.zip us))
    (hbody : ∀ (cdv : Value) (A : Around) (outer : List Env) (s : Shared) (H : Hp) (E : XK), Cxt (cxOf (L2.CX P w) P w K mg base N x scope f cdv A outer s H E) (fun cls d _ H => E cls d H) k → SSs (cxOf (L2.CX P w) P w K mg base N x scope f cdv A outer s H E) (fun cls d _ H => E cls d H) body fb) :
    FnRf P w K mg base (k + 1) x ps.length (runR fb N.length) := ⟨f, fd, ps, hm, F.kp, F.bindsN hb, fn_okR F S hbody⟩
theorem fnM_def (F : FunD K x x params body scope [] [] f fd) (hm : mg x = some (.ref f)) (S : FnScope N ps scope)
    (hb : ∀ (kV doc pm : Value) (an : Option Addr) (cdv ct : Value) (us : List Value), us.length = ps.length → bindArgs (PySem.W.fnOf x x params body scope .none kV doc pm an cdv ct) ⟨us, []⟩ = pure (ps.zip us))
    (hbody : ∀ (cdv : Value) (A : Around) (outer : List Env) (s : Shared) (H : Hp) (E : XK), Cxt (cxOf (L2.CX P w) P w K mg base N x scope f cdv A outer s H E) (fun cls d _ H => E cls d H) k → SSM (cxOf (L2.CX P w) P w K mg base N x scope f cdv A outer s H E) (fun cls d _ H => E cls d H) body fb) :
    FnMf P w K mg base (k + 1) x ps.length (runM fb N.length) := ⟨f, fd, ps, hm, F.kp, F.bindsN hb, fn_okM F S hbody⟩
theorem mtR_def (F : FunD K m qual params body scope [] [] f fd) (hm : Meth K (He.ga K c) m f) (S : FnScope N ps scope)
    (hb : ∀ (kV doc pm : Value) (an : Option Addr) (cdv ct : Value) (us : List Value), us.length = ps.length → bindArgs (PySem.W.fnOf m qual params body scope .none kV doc pm an cdv ct) ⟨us, []⟩ = pure (ps.zip us))
    (hbody : ∀ (cdv : Value) (A : Around) (outer : List Env) (s : Shared) (H : Hp) (E : XK), Cxt (cxOf (L2.CX P w) P w K mg base N qual scope f cdv A outer s H E) (fun cls d _ H => E cls d H) k → SSs (cxOf (L2.CX P w) P w K mg base N qual scope f cdv A outer s H E) (fun cls d _ H => E cls d H) body fb) :
    FnRm P w K mg base (k + 1) c m ps.length (runR fb N.length) := ⟨f, fd, ps, hm, F.bindsN hb, fn_okR F S hbody⟩
theorem mtM_def (F : FunD K m qual params body scope [] [] f fd) (hm : Meth K (He.ga K c) m f) (S : FnScope N ps scope)
    (hb : ∀ (kV doc pm : Value) (an : Option Addr) (cdv ct : Value) (us : List Value), us.length = ps.length → bindArgs (PySem.W.fnOf m qual params body scope .none kV doc pm an cdv ct) ⟨us, []⟩ = pure (ps.zip us))
    (hbody : ∀ (cdv : Value) (A : Around) (outer : List Env) (s : Shared) (H : Hp) (E : XK), Cxt (cxOf (L2.CX P w) P w K mg base N qual scope f cdv A outer s H E) (fun cls d _ H => E cls d H) k → SSM (cxOf (L2.CX P w) P w K mg base N qual scope f cdv A outer s H E) (fun cls d _ H => E cls d H) body fb) :
    FnMm P w K mg base (k + 1) c m ps.length (runM fb N.length) := ⟨f, fd, ps, hm, F.bindsN hb, fn_okM F S hbody⟩
theorem cls_def (F : FunD K m qual params body scope [] [] f fd) (hm : Mk K (He.ga K c) f) (hg : mg c = some (.ref (He.ga K c))) (S : FnScope N ps scope)
    (hb : ∀ (kV doc pm : Value) (an : Option Addr) (cdv ct : Value) (us : List Value), us.length = ps.length → bindArgs (PySem.W.fnOf m qual params body scope .none kV doc pm an cdv ct) ⟨us, []⟩ = pure (ps.zip us))
    (hbody : ∀ (cdv : Value) (A : Around) (outer : List Env) (s : Shared) (H : Hp) (E : XK), Cxt (cxOf (L2.CX P w) P w K mg base N qual scope f cdv A outer s H E) (fun cls d _ H => E cls d H) k → SSM (cxOf (L2.CX P w) P w K mg base N qual scope f cdv A outer s H E) (fun cls d _ H => E cls d H) body fb) :
    ClsM P w K mg base (k + 1) c ps.length (runM fb N.length) := ⟨f, fd, ps, hm, hg, F.bindsN hb, fn_okM F S hbody⟩
end
end PL
end
section
namespace PL
open PySem PySem.Spec PyProof.Rows L2
end PL
end
section
namespace PL
open PySem PySem.Spec PyProof.Rows L2
section
variable {X : Cx} {E : WX} {pos p : Pos}
end
end PL
end
section
namespace PL
open PySem PySem.Spec PyProof.Rows L2
def dropD (ks : List (Key × D)) (k : Key) : List (Key × D) := ks.filter fun kv => decide (kv.1 ≠ k)
theorem RpK.drop {K : PySem.W.Frag} {G : Hp} {k : Key} : ∀ {v : List (Key × V)} {d : List (Key × D)}, RpK K G v d → RpK K G (dropK v k) (dropD d k)
  | _, _, .nil => .nil
  | _, _, .cons (k := k0) h r => by
    unfold dropK dropD
    rw [List.filter_cons, List.filter_cons]
    by_cases e : k0 ≠ k
    · rw [if_pos (decide_eq_true e), if_pos (decide_eq_true e)]
      exact .cons h r.drop
    · rw [if_neg (by simpa using e), if_neg (by simpa using e)]
      exact r.drop
section
variable {X : Cx} {E : WX} {pos p : Pos}
end
end PL
end
section
namespace PL
open PySem PySem.Spec PyProof.Rows L2
section
variable {X : Cx} {E : WX} {o : Expr} {fo : Rho → R D} {apos cpos : Pos}
end
end PL
end
section
namespace PL
open PySem PySem.Spec PyProof.Rows L2
section
variable {X : Cx} {E : WX} {a k v : Expr} {es : List Expr} {fk fv : Rho → R D} {fd : Rho → R (List (Key × D))} {fs : Rho → R (List Sl)} {pos : Pos}
end
end PL
end
section
namespace PL
open PySem PySem.Spec PyProof.Rows L2
noncomputable def powB (i j : Int) : Bool := okB (0 ≤ j ∧ j ≤ 10 ∧ i.natAbs < 2 ^ 4000)
def CPowW (i j : Int) : Prop := 0 ≤ j ∧ j ≤ 10 ∧ i.natAbs < 2 ^ 4000
theorem op_powN {X : Cx} : OpR X (binaryOp .Pow) (rI CPowW fun i j => .int (i ^ j.toNat)) := opI fun _ _ _ _ _ _ _ hc q => PyProof.Rows.pow_int hc.1 (by
  have h := PySem.intBits_le_iff.mpr hc.2.2
  have h1 := hc.1
  have h2 := hc.2.1
  refine Int.le_trans (Int.mul_le_mul (c := 4000) (d := 10) (by omega) h2 h1 (by decide)) (by decide)) q
noncomputable def powI : Rho → D → D → R D := fun _ => int2 fun i j => if powB i j then .ok (.int (i ^ j.toNat)) else .stuck
theorem ops_powI {K : PySem.W.Frag} : OpS K (rI CPowW fun i j => .int (i ^ j.toNat)) powI := ops_int (cb := fun i j => powB i j) (fun _ _ h => okB_iff.mp h) fun _ _ _ => .int _
section
variable {X : Cx} {E : WX} {a b : Expr} {fa fb : Rho → R D} {pos : Pos}
end
end PL
end
section
namespace PL
open PySem PySem.Spec PyProof.Rows L2
section
variable {X : Cx} {E : WX} {e k1 k2 : Expr} {fe fk1 fk2 : Rho → R D} {pos : Pos}
end
end PL
end
section
open PySem PySem.Spec PyProof.Rows L2
namespace PL.G
end PL.G
end
section
namespace PySem.SeqAt
open AutoSeq1 (wpAny_loadPart')
open MeetsSeq MeetsSeq2 MeetsSeq3 SeqRoads2
section
variable {prog : Program} {w : World}
end
end PySem.SeqAt
namespace PL
open PySem PySem.Spec PyProof.Rows L2
end PL
end
section
open PySem PySem.Spec PyProof.Rows L2
namespace PL.G
noncomputable def B_Mover_o_time : Rho → R Fl := (fRet (fFld (Str.ofString "Mover") (Str.ofString "now") (fVar 0)))
noncomputable def F_Mover_o_time : List Ob → List D → R D := runR B_Mover_o_time 1
noncomputable def B_Mover_o_goal : Rho → R Fl := (fRet (fFld (Str.ofString "Mover") (Str.ofString "end") (fVar 0)))
noncomputable def F_Mover_o_goal : List Ob → List D → R D := runR B_Mover_o_goal 1
noncomputable def B_Mover_o_part : Rho → R Fl := (fSeq (fAsg (.nm 1) (fCall 2 F_minus (fCons (fFld (Str.ofString "Mover") (Str.ofString "now") (fVar 0)) (fCons (fFld (Str.ofString "Mover") (Str.ofString "begun") (fVar 0)) fNil))))
    (fRet (fIf (fTest (fCall 2 F_is_less (fCons (fVar 1) (fCons (fFld (Str.ofString "Mover") (Str.ofString "long") (fVar 0)) fNil)))) (fCall 2 F_parted (fCons (fVar 1) (fCons (fFld (Str.ofString "Mover") (Str.ofString "long") (fVar 0)) fNil))) (fK d_ONE))))
noncomputable def F_Mover_o_part : List Ob → List D → R D := runR B_Mover_o_part 2
noncomputable def B_Mover_o_go_on : Rho → R Fl := (fSeqM (fIfS (fNot (fTest (fCall 1 F_is_time (fCons (fVar 1) fNil)))) (fun _ => .err (Str.ofString "NoNumber")) fNx)
    (fSw (fSetF (Str.ofString "Mover") (Str.ofString "now") (fVar 0) (fCall 2 F_plus (fCons (fFld (Str.ofString "Mover") (Str.ofString "now") (fVar 0)) (fCons (fVar 1) fNil))))))
noncomputable def F_Mover_o_go_on : List Ob → List D → R (D × List Ob) := runM B_Mover_o_go_on 2
noncomputable def B_Mover_o_left : Rho → R Fl := (fSeq (fAsg (.nm 1) (fCall 2 F_minus (fCons (fCall 2 F_plus (fCons (fFld (Str.ofString "Mover") (Str.ofString "begun") (fVar 0)) (fCons (fFld (Str.ofString "Mover") (Str.ofString "long") (fVar 0)) fNil))) (fCons (fFld (Str.ofString "Mover") (Str.ofString "now") (fVar 0)) fNil))))
    (fRet (fIf (fTest (fBin gtI (fBin ixD (fVar 1) (fK (.int 0))) (fK (.int 0)))) (fVar 1) (fK d_NOUGHT))))
noncomputable def F_Mover_o_left : List Ob → List D → R D := runR B_Mover_o_left 2
noncomputable def B_Mover_o_u__init_u_ : Rho → R Fl := (fSeqM (fExpr (fCall 1 F_look_book (fCons (fVar 1) fNil)))
    (fSeqM (fExpr (fCall 2 F_look_name (fCons (fVar 1) (fCons (fVar 2) fNil))))
    (fSw (fSeq (fSetF (Str.ofString "Mover") (Str.ofString "known") (fVar 0) (fVar 1))
    (fSeq (fSetF (Str.ofString "Mover") (Str.ofString "now") (fVar 0) (fK d_NOUGHT))
    (fSeq (fSetF (Str.ofString "Mover") (Str.ofString "start") (fVar 0) (fL (fLst (fCons (fTup (fCons (fVar 2) (fCons (fK d_ONE) fNil))) fNil))))
    (fSeq (fSetF (Str.ofString "Mover") (Str.ofString "end") (fVar 0) (fVar 2))
    (fSeq (fSetF (Str.ofString "Mover") (Str.ofString "begun") (fVar 0) (fK d_NOUGHT))
    (fSeq (fSetF (Str.ofString "Mover") (Str.ofString "long") (fVar 0) (fK d_NOUGHT))
    (fSetF (Str.ofString "Mover") (Str.ofString "way") (fVar 0) (fK (.str (Str.ofString "even")))))))))))))
noncomputable def F_Mover_o_u__init_u_ : List Ob → List D → R (D × List Ob) := runM B_Mover_o_u__init_u_ 3
noncomputable def B_Mover_o_shares : Rho → R Fl := (fRet (fCall 3 F_led_over (fCons (fFld (Str.ofString "Mover") (Str.ofString "start") (fVar 0)) (fCons (fL (fLst (fCons (fTup (fCons (fFld (Str.ofString "Mover") (Str.ofString "end") (fVar 0)) (fCons (fK d_ONE) fNil))) fNil))) (fCons (fCall 2 F_eased (fCons (fFld (Str.ofString "Mover") (Str.ofString "way") (fVar 0)) (fCons (fMethR (Str.ofString "Mover") (Str.ofString "part") 1 F_Mover_o_part (fVar 0) fNil) fNil))) fNil)))))
noncomputable def F_Mover_o_shares : List Ob → List D → R D := runR B_Mover_o_shares 1
noncomputable def B_Mover_o_call : Rho → R Fl := (fSeqM (fExpr (fCall 2 F_look_name (fCons (fFld (Str.ofString "Mover") (Str.ofString "known") (fVar 0)) (fCons (fVar 1) fNil))))
    (fSeqM (fIfS (fNot (fTest (fCall 1 F_is_time (fCons (fVar 2) fNil)))) (fun _ => .err (Str.ofString "NoNumber")) fNx)
    (fSeqM (fIfS (fNot (fTest (fCall 1 F_is_way (fCons (fVar 3) fNil)))) (fun _ => .err (Str.ofString "NoWay")) fNx)
    (fSw (fSeq (fSetF (Str.ofString "Mover") (Str.ofString "start") (fVar 0) (fMethR (Str.ofString "Mover") (Str.ofString "shares") 1 F_Mover_o_shares (fVar 0) fNil))
    (fSeq (fSetF (Str.ofString "Mover") (Str.ofString "end") (fVar 0) (fVar 1))
    (fSeq (fSetF (Str.ofString "Mover") (Str.ofString "begun") (fVar 0) (fFld (Str.ofString "Mover") (Str.ofString "now") (fVar 0)))
    (fSeq (fSetF (Str.ofString "Mover") (Str.ofString "long") (fVar 0) (fVar 2))
    (fSetF (Str.ofString "Mover") (Str.ofString "way") (fVar 0) (fVar 3))))))))))
noncomputable def F_Mover_o_call : List Ob → List D → R (D × List Ob) := runM B_Mover_o_call 4
noncomputable def B_Mover_o_worths : Rho → R Fl := (fRet (fCall 2 F_worths_of (fCons (fFld (Str.ofString "Mover") (Str.ofString "known") (fVar 0)) (fCons (fMethR (Str.ofString "Mover") (Str.ofString "shares") 1 F_Mover_o_shares (fVar 0) fNil) fNil))))
noncomputable def F_Mover_o_worths : List Ob → List D → R D := runR B_Mover_o_worths 1
end PL.G
end
section
namespace PL
open PySem PySem.Spec PyProof.Rows L2 PL.G
section
variable (r : Rho) (f g fa fb fc : Rho → R D) (ga gb : Rho → R Bool) (fs : Rho → R (List D)) (i j : Nat) (s1 s2 : Rho → R Fl) (d : D)
@[simp] theorem x_fVar : fVar i r = (match r[i]? with
  | some (.im d) => .ok d
  | some (.ol _) => .ok (.own i)
  | some (.od _) => .ok (.own i)
  | _ => .stuck) := rfl
@[simp] theorem x_fBin (h : Rho → D → D → R D) : fBin h fa fb r = (fa r).bnd fun x => (fb r).bnd fun y => h r x y := rfl
@[simp] theorem x_fTest : fTest f r = (f r).bnd boolOf := rfl
@[simp] theorem x_boolOf (b : Bool) : boolOf (.bl b) = .ok b := rfl
@[simp] theorem x_fChain (h h' : Rho → D → D → R D) : fChain h h' fa fb fc r = (fa r).bnd fun x => (fb r).bnd fun y => (h r x y).bnd fun z => (boolOf z).bnd fun k => if k then (fc r).bnd fun w => h' r y w else .ok (.bl false) := rfl
@[simp] theorem x_fAnd : fAnd ga gb r = (ga r).bnd fun x => if x then gb r else .ok false := rfl
@[simp] theorem x_fOr : fOr ga gb r = (ga r).bnd fun x => if x then .ok true else gb r := rfl
@[simp] theorem x_fNot : fNot ga r = (ga r).bnd fun x => .ok (!x) := rfl
@[simp] theorem x_fAndV : fAndV fa fb r = (fa r).bnd fun x => (boolOf x).bnd fun k => if k then fb r else .ok (.bl false) := rfl
@[simp] theorem x_fOrV : fOrV fa fb r = (fa r).bnd fun x => (boolOf x).bnd fun k => if k then .ok (.bl true) else fb r := rfl
@[simp] theorem x_fNotV : fNotV fa r = (fa r).bnd fun x => (boolOf x).bnd fun k => .ok (.bl (!k)) := rfl
@[simp] theorem x_fIf : fIf ga fa fb r = (ga r).bnd fun k => if k then fa r else fb r := rfl
@[simp] theorem x_fNil : fNil r = .ok [] := rfl
@[simp] theorem x_fCons : fCons f fs r = (f r).bnd fun d => (imD d).bnd fun d => (fs r).bnd fun ds => .ok (d :: ds) := rfl
@[simp] theorem x_fConsB : fConsB f fs r = (f r).bnd fun d => (fs r).bnd fun ds => .ok (d :: ds) := rfl
@[simp] theorem x_imD_non : imD .non = .ok .non := rfl
@[simp] theorem x_imD_bl (b) : imD (.bl b) = .ok (.bl b) := rfl
@[simp] theorem x_imD_int (b) : imD (.int b) = .ok (.int b) := rfl
@[simp] theorem x_imD_str (b) : imD (.str b) = .ok (.str b) := rfl
@[simp] theorem x_imD_tup (b) : imD (.tup b) = .ok (.tup b) := rfl
@[simp] theorem x_imD_lst (b) : imD (.lst b) = .ok (.lst b) := rfl
@[simp] theorem x_imD_dic (b) : imD (.dic b) = .ok (.dic b) := rfl
@[simp] theorem x_imD_scr (b) : imD (.scr b) = .ok (.scr b) := rfl
@[simp] theorem x_fTup : fTup fs r = (fs r).bnd fun ds => if szD ds then .ok (.tup ds) else .stuck := rfl
@[simp] theorem x_fLst : fLst fs r = (fs r).bnd fun ds => if szD ds then .ok ds else .stuck := rfl
@[simp] theorem x_fL : fL fs r = (fs r).bnd fun ds => .ok (.lst ds) := rfl
@[simp] theorem x_fCall (n : Nat) (F : List D → R D) : fCall n F fs r = (fs r).bnd fun ds => if ds.length == n then F ds else .stuck := rfl
@[simp] theorem x_fCallB {α : Type} (h : Rho → List D → R α) : fCallB h fs r = (fs r).bnd (h r) := rfl
@[simp] theorem x_fNeg : fNeg f r = (f r).bnd negD := rfl
@[simp] theorem x_negD (i : Int) : negD (.int i) = .ok (.int (-i)) := rfl
@[simp] theorem x_fIsi (ts : List String) : fIsi ts f r = (f r).bnd fun d => if ownL r d then .ok (.bl (ts.any fun t => isTy d t)) else .stuck := rfl
@[simp] theorem x_fSl (fl fh : Rho → R (Option Int)) : fSl f fl fh r = (f r).bnd fun x => (fl r).bnd fun lo => (fh r).bnd fun hi => slD r x lo hi := rfl
@[simp] theorem x_intOf (i : Int) : intOf (.int i) = .ok (some i) := rfl
@[simp] theorem x_fIt (ow : Bool) : fIt ow f r = (f r).bnd (itemsD ow r) := rfl
@[simp] theorem x_fRg (h : List D → R (List D)) : fRg h fs r = (fs r).bnd h := rfl
@[simp] theorem x_fZip (ow : Bool) : fZip ow fs r = (fs r).bnd (zipD ow r) := rfl
@[simp] theorem x_fEnum (ow : Bool) : fEnum ow fs r = (fs r).bnd (enumD ow r) := rfl
@[simp] theorem x_fLc (vs : List Nat) (t : Tg) (fi : Rho → R (List D)) : fLc vs t fi ga f r = (fi r).bnd fun ds => if decide (ds.length < sizeLine) then lcGo t ga f (wipeR r vs) ds else .stuck := rfl
@[simp] theorem x_fNx : fNx r = .ok (.nx r) := rfl
@[simp] theorem x_fSeq : fSeq s1 s2 r = (s1 r).bnd fun x => match x with
  | .nx r' => s2 r'
  | .bk r' => .ok (.bk r')
  | .ct r' => .ok (.ct r')
  | .rt d => .ok (.rt d)
  | .rm d os => .ok (.rm d os) := rfl
@[simp] theorem x_fIfS : fIfS ga s1 s2 r = (ga r).bnd fun b => if b then s1 r else s2 r := rfl
@[simp] theorem x_fRet : fRet f r = (f r).bnd fun d => (outD r d).bnd fun d => .ok (.rt d) := rfl
@[simp] theorem x_fExpr : fExpr f r = (f r).bnd fun _ => .ok (.nx r) := rfl
@[simp] theorem x_outD_non : outD r .non = .ok .non := rfl
@[simp] theorem x_outD_bl (b) : outD r (.bl b) = .ok (.bl b) := rfl
@[simp] theorem x_outD_int (b) : outD r (.int b) = .ok (.int b) := rfl
@[simp] theorem x_outD_str (b) : outD r (.str b) = .ok (.str b) := rfl
@[simp] theorem x_outD_tup (b) : outD r (.tup b) = .ok (.tup b) := rfl
@[simp] theorem x_outD_lst (b) : outD r (.lst b) = .ok (.lst b) := rfl
@[simp] theorem x_outD_dic (b) : outD r (.dic b) = .ok (.dic b) := rfl
@[simp] theorem x_outD_own : outD r (.own i) = (match r[i]? with
  | some (.ol ds) => .ok (.lst ds)
  | _ => .stuck) := rfl
@[simp] theorem x_fAsg (t : Tg) : fAsg t f r = (f r).bnd fun d => (imD d).bnd fun d => (setT t d r).bnd fun r' => .ok (.nx r') := rfl
@[simp] theorem x_fAsgN : fAsgN i fs r = (fs r).bnd fun ds => if decide (i < r.length) then .ok (.nx (r.set i (.ol ds))) else .stuck := rfl
@[simp] theorem x_fPar : fPar i j fs r = (fs r).bnd fun ds => (match ds with
  | [x, y] => if decide (i < r.length ∧ j < r.length) then .ok (.nx ((r.set i (.im x)).set j (.im y))) else .stuck
  | _ => .stuck) := rfl
@[simp] theorem x_setT_nm : setT (.nm i) d r = if decide (i < r.length) then .ok (r.set i (.im d)) else .stuck := rfl
@[simp] theorem x_setT_tp (ts : List Tg) (ds : List D) : setT (.tp ts) (.tup ds) r = setTs ts ds r := rfl
@[simp] theorem x_setTs_nil : setTs [] [] r = .ok r := rfl
@[simp] theorem x_setTs_cons (t : Tg) (ts : List Tg) (ds : List D) : setTs (t :: ts) (d :: ds) r = (setT t d r).bnd fun r2 => setTs ts ds r2 := rfl
@[simp] theorem x_fApp : fApp i f r = (match r[i]? with
  | some (.ol ds) => (f r).bnd fun d => (imD d).bnd fun d => if decide (ds.length < sizeLine) then .ok (.nx (r.set i (.ol (ds ++ [d])))) else .stuck
  | _ => .stuck) := rfl
@[simp] theorem x_fExt : fExt i f r = (match r[i]? with
  | some (.ol ds) => (f r).bnd fun d => (match d with
    | .lst es => if decide (ds.length + es.length ≤ sizeLine) then .ok (.nx (r.set i (.ol (ds ++ es)))) else .stuck
    | _ => .stuck)
  | _ => .stuck) := rfl
@[simp] theorem x_fSetIx : fSetIx i fa f r = (match r[i]? with
  | some (.ol ds) => (f r).bnd fun d => (imD d).bnd fun d => (fa r).bnd fun k => (match k with
    | .int k => (match ixN ds.length k with
      | some j => .ok (.nx (r.set i (.ol (ds.set j d))))
      | none => .stuck)
    | _ => .stuck)
  | _ => .stuck) := rfl
@[simp] theorem x_fFor (t : Tg) (fi : Rho → R (List D)) : fFor t fi s1 r = (fi r).bnd fun ds => forGo t s1 ds r := rfl
@[simp] theorem x_fWh (m : Rho → Nat) : fWh m ga s1 r = whGo ga s1 (m r) r := rfl
@[simp] theorem x_fFrz : fFrz i s1 r = (match r[i]? with
  | some (.ol ds) => s1 (r.set i (.im (.lst ds)))
  | some (.od ks) => s1 (r.set i (.im (.dic ks)))
  | _ => .stuck) := rfl
theorem x_runF (n : Nat) (ds : List D) : runF s1 n ds = (match s1 (ds.map .im ++ List.replicate (n - ds.length) .un) with
  | .ok (.nx _) => .ok .non
  | .ok (.rt d) => .ok d
  | .ok _ => .stuck
  | .err c => .err c
  | .stuck => .stuck) := rfl
@[simp] theorem x_wipeR_nil : wipeR r [] = r := rfl
@[simp] theorem x_wipeR_cons (v : Nat) (vs : List Nat) : wipeR r (v :: vs) = (wipeR r vs).set v .un := rfl
@[simp] theorem x_noE_ok {α : Type} (a : α) : noE (.ok a) = .ok a := rfl
@[simp] theorem x_ownL_non : ownL r .non = true := rfl
@[simp] theorem x_ownL_bl (b) : ownL r (.bl b) = true := rfl
@[simp] theorem x_ownL_int (b) : ownL r (.int b) = true := rfl
@[simp] theorem x_ownL_str (b) : ownL r (.str b) = true := rfl
@[simp] theorem x_ownL_tup (b) : ownL r (.tup b) = true := rfl
@[simp] theorem x_ownL_lst (b) : ownL r (.lst b) = true := rfl
@[simp] theorem x_ownL_dic (b) : ownL r (.dic b) = true := rfl
@[simp] theorem x_addD_int (a b : Int) : addD r (.int a) (.int b) = .ok (.int (a + b)) := rfl
@[simp] theorem x_addD_tup (a b : List D) : addD r (.tup a) (.tup b) = if decide (a.length + b.length ≤ sizeLine) then .ok (.tup (a ++ b)) else .stuck := rfl
@[simp] theorem x_addD_lst (a b : List D) : addD r (.lst a) (.lst b) = if decide (a.length + b.length ≤ sizeLine) then .ok (.lst (a ++ b)) else .stuck := by
  simp only [addD, catL, viewL]
  split <;> rfl
@[simp] theorem x_subI (a b : Int) : subI r (.int a) (.int b) = .ok (.int (a - b)) := rfl
@[simp] theorem x_mulD_int (a b : Int) : mulD r (.int a) (.int b) = if mulB a b then .ok (.int (a * b)) else .stuck := rfl
@[simp] theorem x_fdivI (a b : Int) : fdivI r (.int a) (.int b) = if divB b then .ok (.int (a / b)) else .stuck := rfl
@[simp] theorem x_modI (a b : Int) : modI r (.int a) (.int b) = if decide (b ≠ 0) then .ok (.int (a.fmod b)) else .stuck := rfl
@[simp] theorem x_ltD_int (a b : Int) : ltD r (.int a) (.int b) = .ok (.bl (decide (a < b))) := rfl
@[simp] theorem x_leD_int (a b : Int) : leD r (.int a) (.int b) = .ok (.bl (decide (a ≤ b))) := rfl
@[simp] theorem x_gtI (a b : Int) : gtI r (.int a) (.int b) = .ok (.bl (decide (b < a))) := rfl
@[simp] theorem x_geI (a b : Int) : geI r (.int a) (.int b) = .ok (.bl (decide (b ≤ a))) := rfl
theorem eqv_int (a b : Int) : PyData.eqv (.int a) (.int b) = (a == b) := by simp [PyData.eqv]
theorem shaped_int (a : Int) : SeqAt.shaped (.int a) = true := by simp [SeqAt.shaped, PyData.canLay0, PyData.depth]
@[simp] theorem x_neD_int (a b : Int) : neD r (.int a) (.int b) = .ok (.bl (!(a == b))) := by
  simp [neD, pyT, py, shaped_int, eqv_int]
@[simp] theorem x_eqD_int (a b : Int) : eqD r (.int a) (.int b) = .ok (.bl (a == b)) := by
  simp [eqD, pyT, py, shaped_int, eqv_int]
@[simp] theorem x_ixD_tup (ds : List D) (k : Int) : ixD r (.tup ds) (.int k) = (match L2.atI ds k with
  | some d => .ok d
  | none => .stuck) := rfl
@[simp] theorem x_ixD_lst (ds : List D) (k : Int) : ixD r (.lst ds) (.int k) = (match L2.atI ds k with
  | some d => .ok d
  | none => .stuck) := rfl
@[simp] theorem x_lenD_tup (ds : List D) : lenD r [.tup ds] = .ok (.int ds.length) := rfl
@[simp] theorem x_lenD_lst (ds : List D) : lenD r [.lst ds] = .ok (.int ds.length) := rfl
@[simp] theorem x_lenD_scr (ns : List Int) : lenD r [.scr ns] = .ok (.int ns.length) := by simp [lenD, viewD]
@[simp] theorem x_absD (k : Int) : absD r [.int k] = .ok (.int (if k < 0 then -k else k)) := rfl
@[simp] theorem x_tupleD_tup (ds : List D) : tupleD r [.tup ds] = .ok (.tup ds) := rfl
@[simp] theorem x_tupleD_lst (ds : List D) : tupleD r [.lst ds] = .ok (.tup ds) := rfl
@[simp] theorem x_listD_tup (ds : List D) : listD r [.tup ds] = .ok ds := rfl
@[simp] theorem x_listD_lst (ds : List D) : listD r [.lst ds] = .ok ds := rfl
@[simp] theorem x_slD_tup (ds : List D) (lo hi : Option Int) : slD r (.tup ds) lo hi = .ok (.tup (cut ds lo hi)) := rfl
@[simp] theorem x_slD_lst (ds : List D) (lo hi : Option Int) : slD r (.lst ds) lo hi = .ok (.lst (cut ds lo hi)) := rfl
@[simp] theorem x_itemsD_tup (ow : Bool) (ds : List D) : itemsD ow r (.tup ds) = .ok ds := rfl
@[simp] theorem x_itemsD_lst (ow : Bool) (ds : List D) : itemsD ow r (.lst ds) = .ok ds := rfl
@[simp] theorem x_szD (ds : List D) : szD ds = decide (ds.length ≤ sizeLine) := rfl
end
theorem sizeLine_ge : (100000 : Nat) ≤ sizeLine := by rw [sizeLine_eq]; decide
theorem sz_le {n : Nat} (h : n ≤ 100000) : n ≤ sizeLine := Nat.le_trans h sizeLine_ge
theorem sz_lt' {n : Nat} (h : n < 100000) : n < sizeLine := Nat.lt_of_lt_of_le h sizeLine_ge
@[simp] theorem at_0 (a : D) (l : List D) : L2.atI (a :: l) 0 = some a := by simp [L2.atI, ixN]
@[simp] theorem at_1 (a b : D) (l : List D) : L2.atI (a :: b :: l) 1 = some b := by
  have : L2.atI (a :: b :: l) ((1 : Nat) : Int) = some b := L2.atI_nat rfl
  exact this
@[simp] theorem at_2 (a b c : D) (l : List D) : L2.atI (a :: b :: c :: l) 2 = some c := by
  have : L2.atI (a :: b :: c :: l) ((2 : Nat) : Int) = some c := L2.atI_nat rfl
  exact this
@[simp] theorem at_3 (a b c e : D) (l : List D) : L2.atI (a :: b :: c :: e :: l) 3 = some e := by
  have : L2.atI (a :: b :: c :: e :: l) ((3 : Nat) : Int) = some e := L2.atI_nat rfl
  exact this
@[simp] theorem at_4 (a b c e f : D) (l : List D) : L2.atI (a :: b :: c :: e :: f :: l) 4 = some f := by
  have : L2.atI (a :: b :: c :: e :: f :: l) ((4 : Nat) : Int) = some f := L2.atI_nat rfl
  exact this
@[simp] theorem sz0 : (0 : Nat) ≤ sizeLine := Nat.zero_le _
@[simp] theorem sz1 : 1 ≤ sizeLine := sz_le (by decide)
@[simp] theorem sz2 : 2 ≤ sizeLine := sz_le (by decide)
@[simp] theorem sz3 : 3 ≤ sizeLine := sz_le (by decide)
@[simp] theorem sz4 : 4 ≤ sizeLine := sz_le (by decide)
@[simp] theorem sz5 : 5 ≤ sizeLine := sz_le (by decide)
theorem gcd_go : ∀ (n : Nat) (a b : Int), b.natAbs < n → ∃ c : Int, c.natAbs = a.gcd b ∧
    whGo (fTest (fBin neD (fVar 1) (fK (.int 0)))) (fPar 0 1 (fCons (fVar 1) (fCons (fBin modI (fVar 0) (fVar 1)) fNil))) n [.im (.int a), .im (.int b)] = .ok (.nx [.im (.int c), .im (.int 0)])
  | 0, a, b, h => by omega
  | n + 1, a, b, h => by
    by_cases hb : b = 0
    · subst hb
      refine ⟨a, by simp, ?_⟩
      simp [whGo]
    · have hlt : (a.fmod b).natAbs < b.natAbs := by
        rcases Int.lt_or_gt_of_ne hb with h1 | h1
        · have e : (-a).fmod (-b) = -a.fmod b := Int.neg_fmod_neg a b
          have h2 := Int.fmod_nonneg_of_pos (-a) (b := -b) (by omega)
          have h3 := Int.fmod_lt_of_pos (-a) (b := -b) (by omega)
          omega
        · have h2 := Int.fmod_nonneg_of_pos a h1
          have h3 := Int.fmod_lt_of_pos a h1
          omega
      obtain ⟨c, e1, e2⟩ := gcd_go n b (a.fmod b) (by omega)
      refine ⟨c, ?_, ?_⟩
      · rw [e1, Int.gcd_comm b, Int.gcd_comm a]
        exact gcd_fmod a b
      · have hbb : (b == 0) = false := by simpa using hb
        simp [whGo, hbb, hb]
        exact e2
where
  gcd_fmod (a b : Int) : (a.fmod b).gcd b = b.gcd a := by
    have h : a.fmod b = a - b * a.fdiv b := Int.fmod_def a b
    rw [h]
    rw [Int.gcd_comm b a]
    have : (a - b * a.fdiv b).gcd b = a.gcd b := by
      rw [Int.sub_eq_add_neg, ← Int.mul_neg]
      exact Int.gcd_add_mul_left_left ..
    exact this
@[simp] theorem F_gcd (a b : Int) : F_greatest_in [.int a, .int b] = .ok (.int ((a.gcd b : Nat) : Int)) := by
  obtain ⟨c, e1, e2⟩ := gcd_go (b.natAbs + 2) a b (by omega)
  have m : m_greatest_in [.im (.int a), .im (.int b)] = b.natAbs + 2 := rfl
  simp only [F_greatest_in, x_runF, B_greatest_in]
  simp [m, e2]
  omega
def fr (q : Rat) : D := .tup [.int q.num, .int q.den]
@[simp] theorem x_imD_fr (q : Rat) : imD (fr q) = .ok (fr q) := rfl
@[simp] theorem x_outD_fr (r : Rho) (q : Rat) : outD r (fr q) = .ok (fr q) := rfl
@[simp] theorem x_ixD_fr0 (r : Rho) (q : Rat) : ixD r (fr q) (.int 0) = .ok (.int q.num) := by simp [fr]
@[simp] theorem x_ixD_fr1 (r : Rho) (q : Rat) : ixD r (fr q) (.int 1) = .ok (.int q.den) := by simp [fr]
def Sm (n : Nat) (q : Rat) : Prop := q.num.natAbs < 2 ^ n ∧ q.den < 2 ^ n
theorem Sm.mono {n m : Nat} {q : Rat} (h : Sm n q) (e : n ≤ m) : Sm m q := ⟨Nat.lt_of_lt_of_le h.1 (Nat.pow_le_pow_right (by decide) e), Nat.lt_of_lt_of_le h.2 (Nat.pow_le_pow_right (by decide) e)⟩
theorem log2_lt_bits {a n : Nat} (h : a < 2 ^ n) : a.log2 < n + 1 := by
  by_cases z : a = 0
  · subst z; simp
  · exact Nat.lt_succ_of_lt ((Nat.log2_lt z).mpr h)
theorem mulB_bits {a b : Int} {n m : Nat} (h1 : a.natAbs < 2 ^ n) (h2 : b.natAbs < 2 ^ m) (h : n + m ≤ 900000) : mulB a b = true := by
  have e1 := log2_lt_bits h1
  have e2 := log2_lt_bits h2
  exact okB_iff.mpr (.inr (by omega))
theorem mul_bits {a b : Int} {n m : Nat} (h1 : a.natAbs < 2 ^ n) (h2 : b.natAbs < 2 ^ m) : (a * b).natAbs < 2 ^ (n + m) := by
  rw [Int.natAbs_mul, Nat.pow_add]
  exact Nat.mul_lt_mul'' h1 h2
theorem add_bits {a b : Int} {n : Nat} (h1 : a.natAbs < 2 ^ n) (h2 : b.natAbs < 2 ^ n) : (a + b).natAbs < 2 ^ (n + 1) := by
  have := Int.natAbs_add_le a b
  rw [Nat.pow_succ]
  omega
theorem divB_gcd {u d : Int} {n : Nat} (hd : d ≠ 0) (h : d.natAbs < 2 ^ n) (hn : n ≤ 8990) : divB ((u.gcd d : Nat) : Int) = true := by
  have hp : 0 < u.gcd d := Nat.pos_of_ne_zero fun z => hd (Int.gcd_eq_zero_iff.mp z).2
  have hle : u.gcd d ≤ d.natAbs := Nat.le_of_dvd (by omega) (Int.gcd_dvd_natAbs_right u d)
  have := log2_lt_bits (Nat.lt_of_le_of_lt hle h)
  refine okB_iff.mpr ⟨by omega, ?_⟩
  rw [Int.natAbs_natCast]
  omega
theorem share_num {u d : Int} (hd : 0 < d) : (Rat.divInt u d).num = u / ((u.gcd d : Nat) : Int) := by
  rw [Rat.num_divInt, Int.sign_eq_one_of_pos hd, Int.one_mul, Int.gcd_comm]
theorem share_den {u d : Int} (hd : 0 < d) : (((Rat.divInt u d).den : Nat) : Int) = d / ((u.gcd d : Nat) : Int) := by
  rw [Rat.den_divInt, if_neg (by omega), Int.gcd_comm, Int.natCast_ediv]
  congr 1
  omega
theorem F_share_ok {u d : Int} {n : Nat} (hd : d ≠ 0) (h : d.natAbs < 2 ^ n) (hn : n ≤ 8990) : F_share [.int u, .int d] = .ok (fr (Rat.divInt u d)) := by
  have dv := divB_gcd (u := u) hd h hn
  simp only [F_share, x_runF, B_share]
  by_cases hp : 0 < d
  · simp [dv, hp, fr, share_num hp, share_den hp]
  · have hneg : 0 < -d := by omega
    have e : Rat.divInt u d = Rat.divInt (-u) (-d) := (Rat.neg_divInt_neg u d).symm
    have g : (-u).gcd (-d) = u.gcd d := by simp [Int.gcd]
    have dn : ((u.gcd d : Nat) : Int) ∣ u := Int.gcd_dvd_left ..
    have dd : ((u.gcd d : Nat) : Int) ∣ d := Int.gcd_dvd_right ..
    simp [dv, hp, fr]
    rw [e, share_num hneg, share_den hneg, g, Int.neg_ediv_of_dvd dn, Int.neg_ediv_of_dvd dd]
    simp
theorem divInt_sm {u d : Int} {n : Nat} (hd : d ≠ 0) (h1 : u.natAbs < 2 ^ n) (h2 : d.natAbs < 2 ^ n) : Sm n (Rat.divInt u d) := by
  constructor
  · rw [Rat.num_divInt]
    refine Nat.lt_of_le_of_lt (Int.natAbs_ediv_le_natAbs _ _) ?_
    rw [Int.natAbs_mul]
    refine Nat.lt_of_le_of_lt ?_ h1
    rcases Int.lt_trichotomy d 0 with z | z | z
    · rw [Int.sign_eq_neg_one_of_neg z]; simp
    · exact absurd z hd
    · rw [Int.sign_eq_one_of_pos z]; simp
  · rw [Rat.den_divInt, if_neg hd]
    exact Nat.lt_of_le_of_lt (Nat.div_le_self _ _) h2
theorem add_divInt (x y : Rat) : Rat.divInt (x.num * y.den + y.num * x.den) (x.den * y.den) = x + y := by
  rw [Rat.add_def', ← Rat.divInt_ofNat]
  congr 1
theorem sub_divInt (x y : Rat) : Rat.divInt (x.num * y.den - y.num * x.den) (x.den * y.den) = x - y := by
  rw [Rat.sub_def', ← Rat.divInt_ofNat]
  congr 1
theorem mul_divInt (x y : Rat) : Rat.divInt (x.num * y.num) (x.den * y.den) = x * y := by
  rw [Rat.mul_def', ← Rat.divInt_ofNat]
  congr 1
theorem den_ne (x : Rat) : (x.den : Int) ≠ 0 := by have := x.den_pos; omega
theorem den_mul_ne (x y : Rat) : (x.den : Int) * y.den ≠ 0 := Int.mul_ne_zero (den_ne x) (den_ne y)
section
variable {x y : Rat} {n m : Nat}
theorem Sm.add (hx : Sm n x) (hy : Sm m y) : Sm (n + m + 1) (x + y) := by
  rw [← add_divInt]
  refine divInt_sm (den_mul_ne x y) (add_bits (mul_bits hx.1 (by simpa using hy.2)) (by rw [Nat.add_comm]; exact mul_bits hy.1 (by simpa using hx.2))) ?_
  exact Nat.lt_of_lt_of_le (mul_bits (by simpa using hx.2) (by simpa using hy.2)) (Nat.pow_le_pow_right (by decide) (by omega))
theorem Sm.sub (hx : Sm n x) (hy : Sm m y) : Sm (n + m + 1) (x - y) := by
  rw [← sub_divInt, Int.sub_eq_add_neg]
  refine divInt_sm (den_mul_ne x y) (add_bits (mul_bits hx.1 (by simpa using hy.2)) (by rw [Nat.add_comm, Int.natAbs_neg]; exact mul_bits hy.1 (by simpa using hx.2))) ?_
  exact Nat.lt_of_lt_of_le (mul_bits (by simpa using hx.2) (by simpa using hy.2)) (Nat.pow_le_pow_right (by decide) (by omega))
theorem Sm.mul (hx : Sm n x) (hy : Sm m y) : Sm (n + m) (x * y) := by
  rw [← mul_divInt]
  exact divInt_sm (den_mul_ne x y) (mul_bits hx.1 hy.1) (mul_bits (by simpa using hx.2) (by simpa using hy.2))
theorem F_plus_ok (hx : Sm n x) (hy : Sm m y) (h : n + m ≤ 8990) : F_plus [fr x, fr y] = .ok (fr (x + y)) := by
  have m1 : mulB x.num y.den = true := mulB_bits hx.1 (by simpa using hy.2) (by omega)
  have m2 : mulB y.num x.den = true := mulB_bits hy.1 (by simpa using hx.2) (by omega)
  have m3 : mulB x.den y.den = true := mulB_bits (n := n) (m := m) (by simpa using hx.2) (by simpa using hy.2) (by omega)
  simp only [F_plus, x_runF, B_plus]
  simp [m1, m2, m3]
  rw [F_share_ok (den_mul_ne x y) (mul_bits (by simpa using hx.2) (by simpa using hy.2)) h, add_divInt]
  simp
theorem F_minus_ok (hx : Sm n x) (hy : Sm m y) (h : n + m ≤ 8990) : F_minus [fr x, fr y] = .ok (fr (x - y)) := by
  have m1 : mulB x.num y.den = true := mulB_bits hx.1 (by simpa using hy.2) (by omega)
  have m2 : mulB y.num x.den = true := mulB_bits hy.1 (by simpa using hx.2) (by omega)
  have m3 : mulB x.den y.den = true := mulB_bits (n := n) (m := m) (by simpa using hx.2) (by simpa using hy.2) (by omega)
  simp only [F_minus, x_runF, B_minus]
  simp [m1, m2, m3]
  rw [F_share_ok (den_mul_ne x y) (mul_bits (by simpa using hx.2) (by simpa using hy.2)) h, sub_divInt]
  simp
theorem F_times_ok (hx : Sm n x) (hy : Sm m y) (h : n + m ≤ 8990) : F_times [fr x, fr y] = .ok (fr (x * y)) := by
  have m1 : mulB x.num y.num = true := mulB_bits hx.1 hy.1 (by omega)
  have m3 : mulB x.den y.den = true := mulB_bits (n := n) (m := m) (by simpa using hx.2) (by simpa using hy.2) (by omega)
  simp only [F_times, x_runF, B_times]
  simp [m1, m3]
  rw [F_share_ok (den_mul_ne x y) (mul_bits (by simpa using hx.2) (by simpa using hy.2)) h, mul_divInt]
  simp
end
end PL
end
section
namespace PL
open PySem PySem.Spec PyProof.Rows L2 PL.G
def Dep (n : Nat) (d : D) : Prop := (py d).canLay0 = true ∧ (py d).depth ≤ n
def Deps (n : Nat) (ds : List D) : Prop := PyData.canLayAll0 (pys ds) = true ∧ PyData.depthAll (pys ds) ≤ n
theorem deps_of {n : Nat} : ∀ {ds : List D}, (∀ d ∈ ds, Dep n d) → Deps n ds
  | [], _ => ⟨rfl, Nat.zero_le _⟩
  | d :: ds, h => by
    have h1 := h d List.mem_cons_self
    have h2 := deps_of (ds := ds) fun e he => h e (List.mem_cons_of_mem _ he)
    refine ⟨?_, ?_⟩
    · show ((py d).canLay0 && PyData.canLayAll0 (pys ds)) = true
      rw [h1.1, h2.1]; rfl
    · show max (py d).depth (PyData.depthAll (pys ds)) ≤ n
      have a := h1.2
      have b := h2.2
      omega
theorem dep_tup {n : Nat} {ds : List D} (h : ∀ d ∈ ds, Dep n d) : Dep (n + 1) (.tup ds) := by
  have q := deps_of h
  exact ⟨q.1, Nat.succ_le_succ q.2⟩
theorem dep_lst {n : Nat} {ds : List D} (h : ∀ d ∈ ds, Dep n d) : Dep (n + 1) (.lst ds) := by
  have q := deps_of h
  exact ⟨q.1, Nat.succ_le_succ q.2⟩
theorem dep_int (n : Nat) (i : Int) : Dep n (.int i) := ⟨rfl, Nat.zero_le _⟩
theorem dep_non (n : Nat) : Dep n .non := ⟨rfl, Nat.zero_le _⟩
theorem dep_str (n : Nat) {x : Str} (h : PyData.strOk x = true) : Dep n (.str x) := ⟨h, Nat.zero_le _⟩
theorem Dep.mono {n m : Nat} {d : D} (h : Dep n d) (e : n ≤ m) : Dep m d := ⟨h.1, Nat.le_trans h.2 e⟩
theorem dep_fr (q : Rat) : Dep 1 (fr q) := dep_tup (n := 0) fun d hd => by
  rcases List.mem_cons.mp hd with h | h
  · rw [h]; exact dep_int _ _
  · rcases List.mem_cons.mp h with h | h
    · rw [h]; exact dep_int _ _
    · cases h
theorem Dep.shaped {n : Nat} {d : D} (h : Dep n d) (e : n ≤ 64) : SeqAt.shaped (py d) = true := by
  unfold SeqAt.shaped
  rw [h.1, decide_eq_true (Nat.le_trans h.2 e)]
  rfl
theorem pyT_of {r : Rho} {d : D} (h : noOwn d = true) : pyT r d = py d := by
  cases d <;> first | rfl | cases h
theorem dep_noOwn {n : Nat} {d : D} (h : Dep n d) : noOwn d = true := by
  cases d with
  | obj i => exact absurd h.1 (by simp [py, PyData.canLay0])
  | tpo i => exact absurd h.1 (by simp [py, PyData.canLay0])
  | own i => cases h.1
  | _ => rfl
theorem neD_self {r : Rho} {d : D} {n : Nat} (h : Dep n d) (e : n ≤ 64) : neD r d d = .ok (.bl false) := by
  unfold neD
  rw [pyT_of (dep_noOwn h), h.shaped e, SeqAt.eqv_refl _ h.1]
  rfl
theorem eqD_self {r : Rho} {d : D} {n : Nat} (h : Dep n d) (e : n ≤ 64) : eqD r d d = .ok (.bl true) := by
  unfold eqD
  rw [pyT_of (dep_noOwn h), h.shaped e, SeqAt.eqv_refl _ h.1]
  rfl
theorem eqv_fr (x y : Rat) : PyData.eqv (py (fr x)) (py (fr y)) = decide (x = y) := by
  have e : PyData.eqv (py (fr x)) (py (fr y)) = ((x.num == y.num) && (((x.den : Int) == y.den) && true)) := by
    simp [fr, py, pys, PyData.eqv, PyData.eqvAll]
  rw [e]
  by_cases h : x = y
  · subst h; simp
  · have : ¬ (x.num = y.num ∧ (x.den : Int) = y.den) := fun ⟨a, b⟩ => h (Rat.ext a (by omega))
    simp only [Bool.and_true, h, decide_false]
    cases q : (x.num == y.num) with
    | false => rfl
    | true =>
      cases q2 : ((x.den : Int) == y.den) with
      | false => rfl
      | true => exact absurd ⟨by simpa using q, by simpa using q2⟩ this
@[simp] theorem eqD_fr (r : Rho) (x y : Rat) : eqD r (fr x) (fr y) = .ok (.bl (decide (x = y))) := by
  unfold eqD
  rw [pyT_of rfl, pyT_of rfl, (dep_fr x).shaped (by decide), (dep_fr y).shaped (by decide), eqv_fr]
  rfl
@[simp] theorem neD_fr (r : Rho) (x y : Rat) : neD r (fr x) (fr y) = .ok (.bl (!decide (x = y))) := by
  unfold neD
  rw [pyT_of rfl, pyT_of rfl, (dep_fr x).shaped (by decide), (dep_fr y).shaped (by decide), eqv_fr]
  rfl
theorem eqv_str (a b : Str) : PyData.eqv (.str a) (.str b) = (a == b) := by simp [PyData.eqv]
theorem eqD_str {r : Rho} {a b : Str} (ha : PyData.strOk a = true) (hb : PyData.strOk b = true) : eqD r (.str a) (.str b) = .ok (.bl (a == b)) := by
  unfold eqD
  rw [pyT_of rfl, pyT_of rfl, (dep_str 0 ha).shaped (by decide), (dep_str 0 hb).shaped (by decide)]
  show R.ok (D.bl (PyData.eqv (.str a) (.str b))) = _
  rw [eqv_str]
theorem lcGo_typed {α : Type} {t : Tg} {ft : Rho → R Bool} {fe : Rho → R D} {r : Rho} (g : α → D) (p : α → Bool) (v : α → D) : ∀ (xs : List α), (∀ x ∈ xs, ∃ r2, setT t (g x) r = .ok r2 ∧ ft r2 = .ok (p x) ∧ (p x = true → fe r2 = .ok (v x) ∧ noOwn (v x) = true)) → lcGo t ft fe r (xs.map g) = .ok ((xs.filter p).map v)
  | [], _ => rfl
  | x :: xs, h => by
    obtain ⟨r2, h1, h2, h3⟩ := h x List.mem_cons_self
    have ih := lcGo_typed (t := t) (ft := ft) (fe := fe) (r := r) g p v xs fun y hy => h y (List.mem_cons_of_mem _ hy)
    rw [List.map_cons, lcGo, h1]
    simp only [x_noE_ok, bnd_ok, h2]
    cases hp : p x with
    | false =>
      simp only [Bool.false_eq_true, if_false]
      rw [ih, List.filter_cons_of_neg (by simp [hp])]
    | true =>
      obtain ⟨h4, h5⟩ := h3 hp
      simp only [if_true, h4, x_noE_ok, bnd_ok, imD, h5, ih]
      rw [List.filter_cons_of_pos hp, List.map_cons]
theorem lcGo_all {α : Type} {t : Tg} {fe : Rho → R D} {r : Rho} (g : α → D) (v : α → D) (xs : List α) (h : ∀ x ∈ xs, ∃ r2, setT t (g x) r = .ok r2 ∧ fe r2 = .ok (v x) ∧ noOwn (v x) = true) : lcGo t (fun _ => .ok true) fe r (xs.map g) = .ok (xs.map v) := by
  have q := lcGo_typed (t := t) (ft := fun _ => .ok true) (fe := fe) (r := r) g (fun _ => true) v xs fun x hx => by
    obtain ⟨r2, h1, h2, h3⟩ := h x hx
    exact ⟨r2, h1, rfl, fun _ => ⟨h2, h3⟩⟩
  rw [q]
  congr 2
  exact List.filter_eq_self.mpr fun _ _ => rfl
theorem forGo_fold {α σ : Type} {t : Tg} {fb : Rho → R Fl} (g : α → D) (rho : σ → Rho) (step : σ → α → σ) (P : List α → σ → Prop) : ∀ (xs : List α) (s : σ), P xs s → (∀ x xs s, P (x :: xs) s → P xs (step s x) ∧ ∃ r2, setT t (g x) (rho s) = .ok r2 ∧ (fb r2 = .ok (.nx (rho (step s x))) ∨ fb r2 = .ok (.ct (rho (step s x))))) →
    forGo t fb (xs.map g) (rho s) = .ok (.nx (rho (xs.foldl step s)))
  | [], s, _, _ => rfl
  | x :: xs, s, h0, h => by
    obtain ⟨h1, r2, h2, h3⟩ := h x xs s h0
    have ih := forGo_fold (t := t) (fb := fb) g rho step P xs (step s x) h1 h
    rw [List.map_cons, forGo, h2]
    simp only [x_noE_ok, bnd_ok]
    rcases h3 with h3 | h3
    · rw [h3]
      simp only [bnd_ok]
      exact ih
    · rw [h3]
      simp only [bnd_ok]
      exact ih
theorem rangeD1_ok (n : Nat) (h : n ≤ 1000) : rangeD1 [.int n] = .ok ((List.range n).map fun (i : Nat) => .int (i : Int)) := by
  simp only [rangeD1]
  rw [if_pos (okB_iff.mpr ⟨by omega, by omega⟩)]
  simp
theorem dep_ints : ∀ ns : List Int, PyData.canLayAll0 (ns.map PyData.int) = true ∧ PyData.depthAll (ns.map PyData.int) = 0
  | [] => ⟨rfl, rfl⟩
  | n :: ns => by
    obtain ⟨h1, h2⟩ := dep_ints ns
    exact ⟨by show (true && _) = true; rw [h1]; rfl, by show max 0 _ = 0; rw [h2]; rfl⟩
theorem dep_scr (ns : List Int) : Dep 1 (.scr ns) := by
  obtain ⟨h1, h2⟩ := dep_ints ns
  exact ⟨h1, by show PyData.depthAll (ns.map PyData.int) + 1 ≤ 1; omega⟩
theorem scr_nil (r : Rho) (ns : List Int) : eqD r (.scr ns) (.lst []) = .ok (.bl ns.isEmpty) := by
  unfold eqD
  rw [pyT_of rfl, pyT_of rfl, (dep_scr ns).shaped (by decide), (dep_lst (n := 0) (ds := []) (by simp)).shaped (by decide)]
  cases ns <;> simp [py, pys, PyData.eqv, PyData.eqvAll]
theorem mulB_l {a b : Int} (h1 : -(2 ^ 64) < a) (h2 : a < 2 ^ 64) : mulB a b = true := okB_iff.mpr (.inl (.inl ⟨h1, h2⟩))
theorem mulB_r {a b : Int} (h1 : -(2 ^ 64) < b) (h2 : b < 2 ^ 64) : mulB a b = true := okB_iff.mpr (.inl (.inr ⟨h1, h2⟩))
theorem atI_scr (ns : List Int) (k : Int) (h0 : 0 ≤ k) (h : k < ns.length) : ∃ c, L2.atI (ns.map D.int) k = some (.int c) := by
  have hj : k.toNat < ns.length := by omega
  obtain ⟨c, hc⟩ : ∃ c, (ns.map D.int)[k.toNat]? = some (.int c) := ⟨ns[k.toNat], by rw [List.getElem?_map, List.getElem?_eq_getElem hj]; rfl⟩
  refine ⟨c, ?_⟩
  have e : ((k.toNat : Nat) : Int) = k := by omega
  have q := L2.atI_nat hc
  rw [e] at q
  exact q
theorem cell_ok (ns : List Int) (k : Int) (h0 : 0 ≤ k) : ∃ c, F_u_law_cell [.scr ns, .int k] = .ok (.int c) := by
  simp only [F_u_law_cell, x_runF, B_u_law_cell]
  by_cases h : k < ns.length
  · obtain ⟨c, hc⟩ := atI_scr ns k h0 h
    refine ⟨c, ?_⟩
    simp [h, ixD, viewD, hc]
  · cases ns with
    | nil =>
      have h' : ¬ k < 0 := by omega
      exact ⟨0, by simp [h', scr_nil]⟩
    | cons x xs =>
      have hl : (0 : Int) < ((x :: xs).length : Int) := by simp
      have hm0 := Int.fmod_nonneg_of_pos k hl
      have hm1 := Int.fmod_lt_of_pos k hl
      obtain ⟨c, hc⟩ := atI_scr (x :: xs) (k.fmod ((x :: xs).length : Int)) hm0 hm1
      have hc' : L2.atI (D.int x :: List.map D.int xs) (k.fmod ((xs.length : Int) + 1)) = some (.int c) := by simpa using hc
      have hz : ((xs.length : Int) + 1 = 0) = False := by simp; omega
      refine ⟨c * 31 + k, ?_⟩
      have mm : mulB c 31 = true := mulB_r (by decide) (by decide)
      have h' : ¬ k < (xs.length : Int) + 1 := by simpa using h
      simp [h', scr_nil, ixD, viewD, hc', hz, mm]
noncomputable def pk (ns : List Int) (k m : Int) : Int := match F_u_law_pick [.scr ns, .int k, .int m] with
  | .ok (.int p) => p
  | _ => 0
theorem pick_ex (ns : List Int) (k m : Int) (h0 : 0 ≤ k) (hm : 0 < m) : ∃ p, F_u_law_pick [.scr ns, .int k, .int m] = .ok (.int p) ∧ 0 ≤ p ∧ p < m := by
  obtain ⟨c, hc⟩ := cell_ok ns k h0
  have m1 : mulB 6151 (k + 1) = true := mulB_l (by decide) (by decide)
  have m2 : mulB (c + 6151 * (k + 1)) 40692 = true := mulB_r (by decide) (by decide)
  have d0 := Int.fmod_nonneg_of_pos ((c + 6151 * (k + 1)) * 40692) (b := 2147483399) (by decide)
  have d1 := Int.fmod_lt_of_pos ((c + 6151 * (k + 1)) * 40692) (b := 2147483399) (by decide)
  generalize hd : ((c + 6151 * (k + 1)) * 40692).fmod 2147483399 = drawn at d0 d1
  have m3 : mulB drawn drawn = true := mulB_l (by omega) (by omega)
  have dv : divB 31 = true := okB_iff.mpr ⟨by decide, by decide⟩
  have hmz : (m = 0) = False := by simp; omega
  refine ⟨((drawn * drawn + drawn / 31).fmod 2147483629).fmod m, ?_, Int.fmod_nonneg_of_pos _ hm, Int.fmod_lt_of_pos _ hm⟩
  simp only [F_u_law_pick, x_runF, B_u_law_pick]
  simp [hc, m1, m2, m3, dv, hmz, hd]
theorem pick_ok (ns : List Int) (k m : Int) (h0 : 0 ≤ k) (hm : 0 < m) : F_u_law_pick [.scr ns, .int k, .int m] = .ok (.int (pk ns k m)) ∧ 0 ≤ pk ns k m ∧ pk ns k m < m := by
  obtain ⟨p, h1, h2, h3⟩ := pick_ex ns k m h0 hm
  unfold pk
  rw [h1]
  exact ⟨rfl, h2, h3⟩
theorem gcd_go2 : ∀ (n : Nat) (u d a b : Int), b.natAbs < n → 0 ≤ a → 0 ≤ b →
    whGo (fTest (fBin neD (fVar 3) (fK (.int 0)))) (fPar 2 3 (fCons (fVar 3) (fCons (fBin modI (fVar 2) (fVar 3)) fNil))) n [.im (.int u), .im (.int d), .im (.int a), .im (.int b)] = .ok (.nx [.im (.int u), .im (.int d), .im (.int ((a.gcd b : Nat) : Int)), .im (.int 0)])
  | 0, _, _, a, b, h, _, _ => by omega
  | n + 1, u, d, a, b, h, ha, hb0 => by
    by_cases hb : b = 0
    · subst hb
      simp [whGo]
      omega
    · have h1 : 0 < b := by omega
      have h2 := Int.fmod_nonneg_of_pos a h1
      have h3 := Int.fmod_lt_of_pos a h1
      have ih := gcd_go2 n u d b (a.fmod b) (by omega) hb0 h2
      have hbb : (b == 0) = false := by simpa using hb
      have e : b.gcd (a.fmod b) = a.gcd b := by
        rw [Int.gcd_comm b, gcd_go.gcd_fmod, Int.gcd_comm]
      rw [e] at ih
      simp [whGo, hbb, hb]
      exact ih
theorem abs_if (u : Int) : (if u < 0 then -u else u) = (u.natAbs : Int) := by
  split <;> omega
theorem F_low_ok {u d : Int} {n : Nat} (hd : d ≠ 0) (h : d.natAbs < 2 ^ n) (hn : n ≤ 8990) : F_u_law_low [.int u, .int d] = .ok (fr (Rat.divInt u d)) := by
  have dv := divB_gcd (u := u) hd h hn
  have m : m_u_law_low [.im (.int u), .im (.int d), .im (.int (u.natAbs : Int)), .im (.int (d.natAbs : Int))] = d.natAbs + 2 := by simp [m_u_law_low, mAbs]
  have g2 := gcd_go2 (d.natAbs + 2) u d (u.natAbs : Int) (d.natAbs : Int) (by omega) (by omega) (by omega)
  have ge : ((u.natAbs : Int)).gcd (d.natAbs : Int) = u.gcd d := by simp [Int.gcd]
  rw [ge] at g2
  simp only [F_u_law_low, x_runF, B_u_law_low]
  by_cases hp : 0 < d
  · simp [abs_if, m, g2, dv, hp, fr, share_num hp, share_den hp]
  · have hneg : 0 < -d := by omega
    have e : Rat.divInt u d = Rat.divInt (-u) (-d) := (Rat.neg_divInt_neg u d).symm
    have g : (-u).gcd (-d) = u.gcd d := by simp [Int.gcd]
    have dn : ((u.gcd d : Nat) : Int) ∣ u := Int.gcd_dvd_left ..
    have dd : ((u.gcd d : Nat) : Int) ∣ d := Int.gcd_dvd_right ..
    simp [abs_if, m, g2, dv, hp, fr]
    rw [e, share_num hneg, share_den hneg, g, Int.neg_ediv_of_dvd dn, Int.neg_ediv_of_dvd dd]
    simp
end PL
end
section
namespace PL
open PySem PySem.Spec PyProof.Rows L2 PL.G
@[simp] theorem x_isTy_int (i : Int) (t : String) : isTy (.int i) t = (t == "int") := rfl
@[simp] theorem x_isTy_bl (i : Bool) (t : String) : isTy (.bl i) t = (t == "bool" || t == "int") := rfl
@[simp] theorem x_isTy_str (i : Str) (t : String) : isTy (.str i) t = (t == "str") := rfl
@[simp] theorem x_isTy_tup (i : List D) (t : String) : isTy (.tup i) t = (t == "tuple") := rfl
@[simp] theorem x_isTy_lst (i : List D) (t : String) : isTy (.lst i) t = (t == "list") := rfl
@[simp] theorem x_isTy_non (t : String) : isTy .non t = false := rfl
@[simp] theorem x_allD (g : List Bool → Bool) (r : Rho) (ds : List D) : allD g r [.lst ds] = (match boolsOf ds with
  | some bs => .ok (.bl (g bs))
  | none => .stuck) := rfl
theorem boolsOf_map (bs : List Bool) : boolsOf (bs.map D.bl) = some bs := by
  induction bs with
  | nil => rfl
  | cons b bs ih => simp [boolsOf, ih]
@[simp] theorem slt1 : 1 < sizeLine := sz_lt' (by decide)
@[simp] theorem slt2 : 2 < sizeLine := sz_lt' (by decide)
@[simp] theorem slt3 : 3 < sizeLine := sz_lt' (by decide)
@[simp] theorem slt4 : 4 < sizeLine := sz_lt' (by decide)
@[simp] theorem slt0 : 0 < sizeLine := sz_lt' (by decide)
theorem F_isfr (q : Rat) : F_is_fraction [fr q] = .ok (.bl true) := by
  have h1 : (0 : Int) < q.den := by have := q.den_pos; omega
  have h2 : q.num.gcd q.den = 1 := by simpa [Int.gcd] using q.reduced
  simp only [F_is_fraction, x_runF, B_is_fraction]
  simp [fr, lcGo, boolsOf, q.den_pos, h2]
structure Ly where
  ov : Bool
  ws : List Rat
  mask : List Rat
  sh : Rat
def wd (b : Bool) : Str := if b then Str.ofString "over" else Str.ofString "more"
structure Lok (m n : Nat) (l : Ly) : Prop where
  lw : l.ws.length = m
  lm : l.mask.length = m
  ws : ∀ q ∈ l.ws, Sm n q
  mp : ∀ q ∈ l.mask, 0 ≤ q ∧ q ≤ 1
  ms : ∀ q ∈ l.mask, Sm 4 q
  sp : 0 ≤ l.sh ∧ l.sh ≤ 1
  ss : Sm 4 l.sh
def nth (xs : List Rat) (j : Nat) : Rat := xs.getD j 0
def jl (w : Rat) (l : Ly) (j : Nat) : Rat := if l.ov then w + nth l.mask j * l.sh * (nth l.ws j - w) else w + nth l.mask j * l.sh * nth l.ws j
theorem fLc_ok {vs : List Nat} {t : Tg} {fi : Rho → R (List D)} {ga : Rho → R Bool} {f : Rho → R D} {r : Rho} {X Y : List D} (h1 : fi r = .ok X) (h2 : X.length < 100000) (h3 : lcGo t ga f (wipeR r vs) X = .ok Y) : fLc vs t fi ga f r = .ok Y := by
  rw [x_fLc, h1, bnd_ok, if_pos (decide_eq_true (sz_lt' h2)), h3]
def lft (j : Nat) (a : Rat) (l : Ly) : Rat := if l.ov then a * (1 - nth l.mask j * l.sh) else a
theorem F_iswhole (j lo hi : Int) : F_is_whole [.int j, .int lo, .int hi] = .ok (.bl (decide (lo ≤ j ∧ j ≤ hi))) := by
  simp only [F_is_whole, x_runF, B_is_whole]
  by_cases h : lo ≤ j
  · simp [h]
  · simp [h]
theorem fr_nought : d_NOUGHT = fr 0 := rfl
theorem sm_one : Sm 1 1 := ⟨by decide, by decide⟩
theorem sm_zero : Sm 1 0 := ⟨by decide, by decide⟩
def lj (j : Nat) (w : Rat) (ls : List Ly) : Rat := ls.foldl (fun w l => jl w l j) w
end PL
end
section
namespace PL
open PySem PySem.Spec PyProof.Rows L2 PL.G
theorem seq_nx {s1 s2 : Rho → R Fl} {r r' : Rho} (h : s1 r = .ok (.nx r')) : fSeq s1 s2 r = s2 r' := by
  rw [x_fSeq, h]; rfl
theorem run_rt {s1 : Rho → R Fl} {n : Nat} {ds : List D} {r0 : Rho} {d : D} (h0 : ds.map .im ++ List.replicate (n - ds.length) .un = r0) (h : s1 r0 = .ok (.rt d)) : runF s1 n ds = .ok d := by
  rw [x_runF, h0, h]
theorem seq_go {s1 s2 : Rho → R Fl} {r r' : Rho} {x : R Fl} (h : s1 r = .ok (.nx r')) (h2 : s2 r' = x) : fSeq s1 s2 r = x := by
  rw [x_fSeq, h]; exact h2
theorem asg_to {i : Nat} {f : Rho → R D} {r r' : Rho} {d : D} (h : f r = .ok d) (hd : imD d = .ok d) (hi : i < r.length) (he : r.set i (.im d) = r') : fAsg (.nm i) f r = .ok (.nx r') := by
  rw [x_fAsg, h, bnd_ok, hd, bnd_ok, x_setT_nm, if_pos (decide_eq_true hi), he]; rfl
theorem for_go {t : Tg} {fi : Rho → R (List D)} {fb : Rho → R Fl} {r : Rho} {ds : List D} {x : R Fl} (h1 : fi r = .ok ds) (h2 : forGo t fb ds r = x) : fFor t fi fb r = x := by
  rw [x_fFor, h1, bnd_ok, h2]
theorem if_skip {g : Rho → R Bool} {s1 : Rho → R Fl} {r : Rho} (h : g r = .ok false) : fIfS g s1 fNx r = .ok (.nx r) := by
  rw [x_fIfS, h]; rfl
theorem or_no {a b : Rho → R Bool} {r : Rho} (h1 : a r = .ok false) (h2 : b r = .ok false) : fOr a b r = .ok false := by
  rw [x_fOr, h1]; exact h2
theorem ne_no {fa fb : Rho → R D} {r : Rho} {d : D} {n : Nat} (h1 : fa r = .ok d) (h2 : fb r = .ok d) (hd : Dep n d) (hn : n ≤ 64) : fTest (fBin neD fa fb) r = .ok false := by
  rw [x_fTest, x_fBin, h1, bnd_ok, h2, bnd_ok, neD_self hd hn]; rfl
theorem call_1 {F : List D → R D} {fa : Rho → R D} {r : Rho} {a d : D} (h1 : fa r = .ok a) (i1 : imD a = .ok a) (h : F [a] = .ok d) : fCall 1 F (fCons fa fNil) r = .ok d := by
  rw [x_fCall, x_fCons, h1, bnd_ok, i1]; exact h
theorem call_2 {F : List D → R D} {fa fb : Rho → R D} {r : Rho} {a b d : D} (h1 : fa r = .ok a) (i1 : imD a = .ok a) (h2 : fb r = .ok b) (i2 : imD b = .ok b) (h : F [a, b] = .ok d) : fCall 2 F (fCons fa (fCons fb fNil)) r = .ok d := by
  rw [x_fCall, x_fCons, h1, bnd_ok, i1, bnd_ok, x_fCons, h2, bnd_ok, i2]; exact h
theorem call_3 {F : List D → R D} {fa fb fc : Rho → R D} {r : Rho} {a b c d : D} (h1 : fa r = .ok a) (i1 : imD a = .ok a) (h2 : fb r = .ok b) (i2 : imD b = .ok b) (h3 : fc r = .ok c) (i3 : imD c = .ok c) (h : F [a, b, c] = .ok d) : fCall 3 F (fCons fa (fCons fb (fCons fc fNil))) r = .ok d := by
  rw [x_fCall, x_fCons, h1, bnd_ok, i1, bnd_ok, x_fCons, h2, bnd_ok, i2, bnd_ok, x_fCons, h3, bnd_ok, i3]; exact h
theorem tup_of {fl : Rho → R (List D)} {r : Rho} {ds : List D} (h : fl r = .ok ds) : fCallB tupleD (fConsB (fL fl) fNil) r = .ok (.tup ds) := by
  rw [x_fCallB, x_fConsB, x_fL, h]; rfl
theorem fL_of {fl : Rho → R (List D)} {r : Rho} {ds : List D} (h : fl r = .ok ds) : fL fl r = .ok (.lst ds) := by
  rw [x_fL, h]; rfl
theorem lc_range {i n : Nat} {r : Rho} {fi : Rho → R D} {fe : Rho → R D} (v : Nat → D) (hn : n ≤ 1000) (h1 : fi r = .ok (.int n)) (hi : i < r.length) (h : ∀ k, k < n → fe (r.set i (.im (.int k))) = .ok (v k) ∧ noOwn (v k) = true) :
    fLc [i] (.nm i) (fRg rangeD1 (fCons fi fNil)) (fun _ => .ok true) fe r = .ok ((List.range n).map v) := by
  refine fLc_ok (X := (List.range n).map fun (k : Nat) => D.int (k : Int)) ?_ (by simp; omega) ?_
  · simp only [x_fRg, x_fCons, h1, bnd_ok, x_imD_int, x_fNil]
    rw [rangeD1_ok n hn]
  · refine lcGo_all (t := .nm i) (fun (k : Nat) => D.int (k : Int)) v (List.range n) fun k hk => ?_
    obtain ⟨e1, e2⟩ := h k (List.mem_range.mp hk)
    refine ⟨r.set i (.im (.int k)), ?_, e1, e2⟩
    simp [wipeR, hi]
theorem sIx_none (n d : Nat) : HT.sIx n d none = d := rfl
theorem sIx_nat (n d a : Nat) (h : a ≤ n) : HT.sIx n d (some (a : Int)) = a := by
  show (if (a : Int) < 0 then ((a : Int) + n).toNat else min (a : Int).toNat n) = a
  rw [if_neg (by omega)]
  omega
theorem cut_drop {α : Type} (xs : List α) (a : Nat) (h : a ≤ xs.length) : cut xs (some (a : Int)) none = xs.drop a := by
  unfold cut
  rw [sIx_none, sIx_nat _ _ _ h]
  apply List.take_of_length_le
  simp
end PL
end
section
namespace PL
open PySem PySem.Spec PyProof.Rows L2 PL.G
abbrev Bk := List (Str × List Int)
def pD (p : Str × List Int) : D := .tup [.str p.1, .tup (p.2.map .int)]
def bkD (b : Bk) : D := .tup (b.map pD)
def lawNames : List Str := [Str.ofString "a", Str.ofString "idle", Str.ofString "run", Str.ofString "walk", Str.ofString "z", Str.ofString "zeal"]
def Nm0 (x : Str) : Prop := x ∈ lawNames ∨ x = Str.ofString "sole"
def Nm (x : Str) : Prop := F_is_name [.str x] = .ok (.bl true) ∧ PyData.strOk x = true ∧ x.length ≤ 100 ∧ strLt (Str.ofString "") x = true
theorem nm0_nm {x : Str} (h : Nm0 x) : Nm x := by
  rcases h with h | rfl
  · simp only [lawNames, List.mem_cons, List.not_mem_nil, or_false] at h
    rcases h with rfl | rfl | rfl | rfl | rfl | rfl <;> exact ⟨by kernel_rfl, by decide +kernel, by decide +kernel, by decide +kernel⟩
  · exact ⟨by kernel_rfl, by decide +kernel, by decide +kernel, by decide +kernel⟩
theorem nm_name {x : Str} (h : Nm x) : F_is_name [.str x] = .ok (.bl true) := h.1
theorem nm_ok {x : Str} (h : Nm x) : PyData.strOk x = true := h.2.1
theorem lawNames_sorted : lawNames.Pairwise (fun a b => strLt a b = true) := by decide +kernel
structure Bok (m : Nat) (b : Bk) : Prop where
  m1 : 1 ≤ m
  m4 : m ≤ 4
  l1 : 1 ≤ b.length
  l6 : b.length ≤ 6
  nm : ∀ p ∈ b, Nm p.1
  ln : ∀ p ∈ b, p.2.length = m
  rg : ∀ p ∈ b, ∀ i ∈ p.2, -999 ≤ i ∧ i ≤ 999
  srt : b.Pairwise (fun p q => strLt p.1 q.1 = true)
theorem allD_ok {α : Type} {r : Rho} {fl : Rho → R (List D)} (g : List Bool → Bool) (xs : List α) (v : α → Bool) (h : fl r = .ok (xs.map fun x => D.bl (v x))) : fCallB (allD g) (fConsB (fL fl) fNil) r = .ok (.bl (g (xs.map v))) := by
  have e : xs.map (fun x => D.bl (v x)) = (xs.map v).map D.bl := by rw [List.map_map]; rfl
  rw [e] at h
  rw [x_fCallB, x_fConsB, x_fL, h]
  show allD g r [.lst ((xs.map v).map D.bl)] = _
  rw [x_allD, boolsOf_map]
theorem all_map_id {α : Type} (xs : List α) (v : α → Bool) (h : ∀ x ∈ xs, v x = true) : (xs.map v).all id = true := by
  rw [List.all_map, List.all_eq_true]
  exact fun x hx => h x hx
theorem any_map_id {α : Type} (xs : List α) (v : α → Bool) (h : ∀ x ∈ xs, v x = false) : (xs.map v).any id = false := by
  rw [List.any_map, List.any_eq_false]
  intro x hx
  simp [h x hx]
theorem F_isstand {st : List Int} (h1 : 1 ≤ st.length) (h4 : st.length ≤ 4) (hr : ∀ i ∈ st, -999 ≤ i ∧ i ≤ 999) : F_is_stand [.tup (st.map .int)] = .ok (.bl true) := by
  have g : fLc [1] (.nm 1) (fIt true (fVar 0)) (fun _ => .ok true) (fCall 3 F_is_whole (fCons (fVar 1) (fCons (fBin subI (fK (.int 0)) (fK d_FARTHEST)) (fCons (fK d_FARTHEST) fNil)))) [.im (.tup (st.map .int)), .un] = .ok (st.map fun i => D.bl (decide (-999 ≤ i ∧ i ≤ 999))) := by
    refine fLc_ok (X := st.map .int) rfl (by simp; omega) ?_
    refine lcGo_all (t := .nm 1) D.int (fun i => D.bl (decide (-999 ≤ i ∧ i ≤ 999))) st fun i hi => ⟨[.im (.tup (st.map .int)), .im (.int i)], by simp, ?_, rfl⟩
    have e := F_iswhole i (-999) 999
    simp [d_FARTHEST, e]
  have a := allD_ok (fun bs => bs.all id) st (fun i => decide (-999 ≤ i ∧ i ≤ 999)) g
  rw [all_map_id st _ (fun i hi => decide_eq_true (hr i hi))] at a
  have h1' : (1 : Int) ≤ st.length := by omega
  have h4' : (st.length : Int) ≤ 4 := by omega
  refine run_rt (r0 := [.im (.tup (st.map .int)), .un]) rfl ?_
  refine seq_go (if_skip (by simp [h1', h4'])) ?_
  rw [x_fRet, a]
  rfl
theorem adj {α : Type} {P : α → α → Prop} : ∀ {l : List α}, l.Pairwise P → ∀ x ∈ l.zip (l.drop 1), P x.1 x.2
  | [], _, x, hx => by simp at hx
  | [a], _, x, hx => by simp at hx
  | a :: b :: l, h, x, hx => by
    have hx' : x ∈ (a, b) :: (b :: l).zip ((b :: l).drop 1) := hx
    rcases List.mem_cons.mp hx' with e | e
    · rw [e]
      exact (List.pairwise_cons.mp h).1 b List.mem_cons_self
    · exact adj (List.pairwise_cons.mp h).2 x e
theorem zip_pD (b c : Bk) : List.zipWith pairD (b.map pD) (c.map pD) = (b.zip c).map fun x => pairD (pD x.1) (pD x.2) := by
  induction b generalizing c with
  | nil => rfl
  | cons p b ih =>
    cases c with
    | nil => rfl
    | cons q c => simp [ih c]
theorem F_isbook {m : Nat} {b : Bk} (h : Bok m b) : F_is_book [bkD b] = .ok (.bl true) := by
  have h1 := h.l1
  have h6 := h.l6
  have m1 := h.m1
  have m4 := h.m4
  have h1' : (1 : Int) ≤ b.length := by omega
  have h6' : (b.length : Int) ≤ 6 := by omega
  have g1 : fLc [1] (.nm 1) (fIt true (fVar 0)) (fun _ => .ok true) (fAndV (fIsi ["tuple"] (fVar 1)) (fAndV (fBin eqD (fCallB lenD (fConsB (fVar 1) fNil)) (fK (.int 2))) (fAndV (fCall 1 F_is_name (fCons (fBin ixD (fVar 1) (fK (.int 0))) fNil)) (fCall 1 F_is_stand (fCons (fBin ixD (fVar 1) (fK (.int 1))) fNil))))) [.im (bkD b), .un, .un] = .ok (b.map fun p => D.bl true) := by
    refine fLc_ok (X := b.map pD) rfl (by simp; omega) ?_
    refine lcGo_all (t := .nm 1) pD (fun _ => D.bl true) b fun p hp => ⟨[.im (bkD b), .im (pD p), .un], by simp, ?_, rfl⟩
    have e1 := nm_name (h.nm p hp)
    have e2 := F_isstand (st := p.2) (by rw [h.ln p hp]; exact m1) (by rw [h.ln p hp]; exact m4) (h.rg p hp)
    simp [pD, e1, e2]
  obtain ⟨p0, b0, hb0⟩ : ∃ p0 b0, b = p0 :: b0 := by
    cases b with
    | nil => simp at h1
    | cons p0 b0 => exact ⟨p0, b0, rfl⟩
  have hp0 : p0 ∈ b := by rw [hb0]; exact List.mem_cons_self
  have i0 : ∀ r, ixD r (bkD b) (.int 0) = .ok (pD p0) := fun r => by rw [hb0]; simp [bkD]
  have g2 : fLc [1] (.nm 1) (fIt true (fVar 0)) (fun _ => .ok true) (fBin neD (fCallB lenD (fConsB (fBin ixD (fVar 1) (fK (.int 1))) fNil)) (fCallB lenD (fConsB (fBin ixD (fBin ixD (fVar 0) (fK (.int 0))) (fK (.int 1))) fNil))) [.im (bkD b), .un, .un] = .ok (b.map fun p => D.bl false) := by
    refine fLc_ok (X := b.map pD) rfl (by simp; omega) ?_
    refine lcGo_all (t := .nm 1) pD (fun _ => D.bl false) b fun p hp => ⟨[.im (bkD b), .im (pD p), .un], by simp, ?_, rfl⟩
    simp [i0]
    simp [pD, h.ln p hp, h.ln p0 hp0]
  have g3 : fLc [1, 2] (.tp [(.nm 1), (.nm 2)]) (fZip true (fConsB (fVar 0) (fConsB (fSl (fVar 0) (fun r => ((fK (.int 1)) r).bnd intOf) (fun _ => .ok none)) fNil))) (fun _ => .ok true) (fBin ltD (fBin ixD (fVar 1) (fK (.int 0))) (fBin ixD (fVar 2) (fK (.int 0)))) [.im (bkD b), .un, .un] = .ok ((b.zip (b.drop 1)).map fun x => D.bl (strLt x.1.1 x.2.1)) := by
    refine fLc_ok (X := (b.zip (b.drop 1)).map fun x => pairD (pD x.1) (pD x.2)) ?_ (by simp; omega) ?_
    · have c := cut_drop (b.map pD) 1 (by simp; omega)
      have c' : cut (b.map pD) (some 1) none = (b.drop 1).map pD := by rw [List.map_drop]; exact c
      have s1 : fSl (fVar 0) (fun r => ((fK (.int 1)) r).bnd intOf) (fun _ => .ok none) [.im (bkD b), .un, .un] = .ok (.tup ((b.drop 1).map pD)) := by
        simp [bkD, c']
      rw [← zip_pD, x_fZip, x_fConsB, x_fConsB, s1]
      rfl
    · refine lcGo_all (t := .tp [(.nm 1), (.nm 2)]) (fun x : (Str × List Int) × (Str × List Int) => pairD (pD x.1) (pD x.2)) (fun x => D.bl (strLt x.1.1 x.2.1)) (b.zip (b.drop 1)) fun x hx => ⟨[.im (bkD b), .im (pD x.1), .im (pD x.2)], by simp [pairD], ?_, rfl⟩
      simp [pD, ltD]
  have a1 := allD_ok (fun bs => bs.all id) b (fun _ => true) g1
  rw [all_map_id b _ (fun _ _ => rfl)] at a1
  have a2 := allD_ok (fun bs => bs.any id) b (fun _ => false) g2
  rw [any_map_id b _ (fun _ _ => rfl)] at a2
  have a3 := allD_ok (fun bs => bs.all id) (b.zip (b.drop 1)) (fun x => strLt x.1.1 x.2.1) g3
  rw [all_map_id _ _ (adj h.srt)] at a3
  refine run_rt (r0 := [.im (bkD b), .un, .un]) rfl ?_
  refine seq_go (if_skip (by simp [bkD, h1', h6'])) ?_
  refine seq_go (if_skip ?_) ?_
  · rw [x_fNot, x_fTest, a1]; rfl
  refine seq_go (if_skip ?_) ?_
  · rw [x_fTest, a2]; rfl
  rw [x_fRet, a3]
  rfl
theorem F_lookbook {m : Nat} {b : Bk} (h : Bok m b) : F_look_book [bkD b] = .ok .non := by
  have e := F_isbook h
  have e2 : imD (bkD b) = .ok (bkD b) := rfl
  simp only [F_look_book, x_runF, B_look_book]
  simp [e, e2]
end PL
end
section
namespace PL
open PySem PySem.Spec PyProof.Rows L2 PL.G
theorem neD_nil {r : Rho} {ds : List D} {n : Nat} (h : Dep n (.lst ds)) (hn : n ≤ 64) : neD r (.lst ds) (.lst []) = .ok (.bl (!ds.isEmpty)) := by
  unfold neD
  rw [pyT_of rfl, pyT_of rfl, h.shaped hn, (dep_lst (n := 0) (ds := []) (by simp)).shaped (by decide)]
  cases ds <;> simp [py, pys, PyData.eqv, PyData.eqvAll]
def enl : Nat → List Str → List (Nat × Str)
  | _, [] => []
  | n, x :: xs => (n, x) :: enl (n + 1) xs
def enD (x : Nat × Str) : D := .tup [.int (x.1 : Nat), .str x.2]
theorem enl_enum : ∀ (n : Nat) (xs : List Str), enumFrom n (xs.map .str) = (enl n xs).map enD
  | _, [] => rfl
  | n, x :: xs => by
    show D.tup [.int n, .str x] :: enumFrom (n + 1) (xs.map .str) = enD (n, x) :: (enl (n + 1) xs).map enD
    rw [enl_enum]; rfl
theorem enl_snd : ∀ (n : Nat) (xs : List Str), (enl n xs).map (·.2) = xs
  | _, [] => rfl
  | n, x :: xs => by
    show x :: (enl (n + 1) xs).map (·.2) = x :: xs
    rw [enl_snd]
theorem enl_len (n : Nat) (xs : List Str) : (enl n xs).length = xs.length := by
  have := congrArg List.length (enl_snd n xs)
  simpa using this
noncomputable def bTop (ns : List Int) (at' : Int) (k : Nat) : Int := if pk ns (at' + 10 + k) 3 = 0 then 3 else if pk ns (at' + 10 + k) 3 = 1 then 20 else 1000
noncomputable def bStand (ns : List Int) (at' : Int) (m k : Nat) : List Int := (List.range m).map fun (j : Nat) => pk ns (at' + 20 + 4 * k + j) (2 * bTop ns at' k - 1) - bTop ns at' k + 1
noncomputable def bNames (ns : List Int) (at' : Int) : List Str := ((enl 0 lawNames).filter fun x => decide (0 < pk ns (at' + 1 + x.1) 3)).map (·.2)
noncomputable def bNames2 (ns : List Int) (at' : Int) : List Str := if bNames ns at' = [] then [Str.ofString "sole"] else bNames ns at'
noncomputable def bBook (ns : List Int) (at' : Int) (m : Nat) : Bk := (enl 0 (bNames2 ns at')).map fun x => (x.2, bStand ns at' m x.1)
theorem bTop_cases (ns : List Int) (at' : Int) (k : Nat) : bTop ns at' k = 3 ∨ bTop ns at' k = 20 ∨ bTop ns at' k = 1000 := by
  unfold bTop
  split
  · exact .inl rfl
  · split
    · exact .inr (.inl rfl)
    · exact .inr (.inr rfl)
theorem bNames_sub (ns : List Int) (at' : Int) : (bNames ns at').Sublist lawNames := by
  have h := (List.filter_sublist (l := enl 0 lawNames) (p := fun x => decide (0 < pk ns (at' + 1 + x.1) 3))).map (·.2)
  rw [enl_snd] at h
  exact h
theorem bNames2_nm0 (ns : List Int) (at' : Int) : ∀ x ∈ bNames2 ns at', Nm0 x := by
  unfold bNames2
  split
  · exact fun x hx => .inr (List.mem_singleton.mp hx)
  · exact fun x hx => .inl ((bNames_sub ns at').subset hx)
theorem bNames2_ok (ns : List Int) (at' : Int) : (bNames2 ns at').Pairwise (fun a b => strLt a b = true) ∧ (∀ x ∈ bNames2 ns at', Nm x) ∧ 1 ≤ (bNames2 ns at').length ∧ (bNames2 ns at').length ≤ 6 := by
  unfold bNames2
  split
  · exact ⟨by simp, fun x hx => nm0_nm (.inr (List.mem_singleton.mp hx)), by simp, by simp⟩
  · rename_i h
    have s := bNames_sub ns at'
    refine ⟨lawNames_sorted.sublist s, fun x hx => nm0_nm (.inl (s.subset hx)), ?_, s.length_le⟩
    cases e : bNames ns at' with
    | nil => exact absurd e h
    | cons _ _ => simp
theorem bBook_ok (ns : List Int) (at' : Int) (m : Nat) (h0 : 0 ≤ at') (h1 : 1 ≤ m) (h4 : m ≤ 4) : Bok m (bBook ns at' m) := by
  obtain ⟨a, b, c, d⟩ := bNames2_ok ns at'
  have hf : (bBook ns at' m).map (·.1) = bNames2 ns at' := by
    unfold bBook
    rw [List.map_map]
    exact enl_snd 0 _
  have hlen : (bBook ns at' m).length = (bNames2 ns at').length := by
    rw [← hf, List.length_map]
  refine ⟨h1, h4, by omega, by omega, fun p hp => ?_, fun p hp => ?_, fun p hp i hi => ?_, ?_⟩
  · exact b _ (by rw [← hf]; exact List.mem_map_of_mem hp)
  · obtain ⟨x, _, rfl⟩ := List.mem_map.mp hp
    simp [bStand]
  · obtain ⟨x, _, rfl⟩ := List.mem_map.mp hp
    obtain ⟨j, _, rfl⟩ := List.mem_map.mp hi
    have ht := bTop_cases ns at' x.1
    have q := pick_ok ns (at' + 20 + 4 * x.1 + j) (2 * bTop ns at' x.1 - 1) (by omega) (by omega)
    omega
  · rw [← hf] at a
    exact List.pairwise_map.mp a
noncomputable abbrev bkB : Rho → R Fl := (fSeq (fAsg (.nm 8) (fBin ixD (fL (fLst (fCons (fK (.int 3)) (fCons (fK (.int 20)) (fCons (fK (.int 1000)) fNil))))) (fCall 3 F_u_law_pick (fCons (fVar 0) (fCons (fBin addD (fBin addD (fVar 1) (fK (.int 10))) (fVar 6)) (fCons (fK (.int 3)) fNil))))))
    (fSeq (fAsg (.nm 9) (fBin addD (fBin addD (fVar 1) (fK (.int 20))) (fBin mulD (fK (.int 4)) (fVar 6))))
    (fApp 5 (fTup (fCons (fVar 7) (fCons (fCallB tupleD (fConsB (fL (fLc [10] (.nm 10) (fRg rangeD1 (fCons (fVar 2) fNil)) (fun _ => .ok true) (fBin addD (fBin subI (fCall 3 F_u_law_pick (fCons (fVar 0) (fCons (fBin addD (fVar 9) (fVar 10)) (fCons (fBin subI (fBin mulD (fK (.int 2)) (fVar 8)) (fK (.int 1))) fNil)))) (fVar 8)) (fK (.int 1))))) fNil)) fNil))))))
theorem bk_body {ns : List Int} {at' : Int} {m : Nat} {S N : D} {made : Bk} {x8 x9 : Sl} {x : Nat × Str} (h0 : 0 ≤ at') (hm : m ≤ 4) (hl : made.length ≤ 1000) :
    bkB [.im (.scr ns), .im (.int at'), .im (.int m), .im S, .im N, .ol (made.map pD), .im (.int x.1), .im (.str x.2), x8, x9, .un] = .ok (.nx [.im (.scr ns), .im (.int at'), .im (.int m), .im S, .im N, .ol ((made ++ [(x.2, bStand ns at' m x.1)]).map pD), .im (.int x.1), .im (.str x.2), .im (.int (bTop ns at' x.1)), .im (.int (at' + 20 + 4 * x.1)), .un]) := by
  obtain ⟨p1, p2, p3⟩ := pick_ok ns (at' + 10 + x.1) 3 (by omega) (by omega)
  have ht := bTop_cases ns at' x.1
  refine seq_go (r' := [.im (.scr ns), .im (.int at'), .im (.int m), .im S, .im N, .ol (made.map pD), .im (.int x.1), .im (.str x.2), .im (.int (bTop ns at' x.1)), x9, .un]) (asg_to (d := .int (bTop ns at' x.1)) ?_ rfl (by simp) rfl) ?_
  · have hp : pk ns (at' + 10 + x.1) 3 = 0 ∨ pk ns (at' + 10 + x.1) 3 = 1 ∨ pk ns (at' + 10 + x.1) 3 = 2 := by omega
    unfold bTop
    rcases hp with hp | hp | hp
    · rw [hp] at p1 ⊢; simp [p1]
    · rw [hp] at p1 ⊢; simp [p1]
    · rw [hp] at p1 ⊢; simp [p1]
  have mm : mulB 4 x.1 = true := mulB_l (by decide) (by decide)
  refine seq_go (r' := [.im (.scr ns), .im (.int at'), .im (.int m), .im S, .im N, .ol (made.map pD), .im (.int x.1), .im (.str x.2), .im (.int (bTop ns at' x.1)), .im (.int (at' + 20 + 4 * x.1)), .un]) (asg_to (d := .int (at' + 20 + 4 * x.1)) (by simp [mm]) rfl (by simp) rfl) ?_
  have l := lc_range (i := 10) (n := m) (r := [.im (.scr ns), .im (.int at'), .im (.int m), .im S, .im N, .ol (made.map pD), .im (.int x.1), .im (.str x.2), .im (.int (bTop ns at' x.1)), .im (.int (at' + 20 + 4 * x.1)), .un]) (fi := fVar 2)
    (fe := (fBin addD (fBin subI (fCall 3 F_u_law_pick (fCons (fVar 0) (fCons (fBin addD (fVar 9) (fVar 10)) (fCons (fBin subI (fBin mulD (fK (.int 2)) (fVar 8)) (fK (.int 1))) fNil)))) (fVar 8)) (fK (.int 1))))
    (fun j => .int (pk ns (at' + 20 + 4 * x.1 + j) (2 * bTop ns at' x.1 - 1) - bTop ns at' x.1 + 1)) (by omega) rfl (by simp) (fun j hj => ⟨by
      have q := (pick_ok ns (at' + 20 + 4 * x.1 + j) (2 * bTop ns at' x.1 - 1) (by omega) (by omega)).1
      have m2 : mulB 2 (bTop ns at' x.1) = true := mulB_l (by decide) (by decide)
      simp [q, m2], rfl⟩)
  have e : (List.range m).map (fun (j : Nat) => D.int (pk ns (at' + 20 + 4 * x.1 + j) (2 * bTop ns at' x.1 - 1) - bTop ns at' x.1 + 1)) = (bStand ns at' m x.1).map .int := by
    unfold bStand; rw [List.map_map]; rfl
  rw [e] at l
  have t := tup_of l
  have z : made.length < sizeLine := sz_lt' (by omega)
  rw [x_fApp]
  simp only [List.getElem?_cons_succ, List.getElem?_cons_zero, x_fTup, x_fCons, x_fVar, bnd_ok, x_imD_str, t, x_imD_tup, x_fNil, x_szD]
  simp [z, pD]
theorem law_bookN (ns : List Int) (at' : Int) (h0 : 0 ≤ at') : ∃ m b, Bok m b ∧ (∀ p ∈ b, Nm0 p.1) ∧ F_u_law_book [.scr ns, .int at'] = .ok (bkD b) := by
  obtain ⟨p1, p1a, p1b⟩ := pick_ok ns at' 4 h0 (by omega)
  obtain ⟨m, hmE, hm1, hm⟩ : ∃ m : Nat, 1 + pk ns at' 4 = m ∧ 1 ≤ m ∧ m ≤ 4 := ⟨(1 + pk ns at' 4).toNat, by omega, by omega, by omega⟩
  refine ⟨m, bBook ns at' m, bBook_ok ns at' m h0 hm1 hm, fun p hp => by
    have hf : (bBook ns at' m).map (·.1) = bNames2 ns at' := by
      unfold bBook
      rw [List.map_map]
      exact enl_snd 0 _
    exact bNames2_nm0 ns at' _ (hf ▸ List.mem_map.mpr ⟨p, hp, rfl⟩), ?_⟩
  refine run_rt (r0 := [.im (.scr ns), .im (.int at'), .un, .un, .un, .un, .un, .un, .un, .un, .un]) rfl ?_
  refine seq_go (r' := [.im (.scr ns), .im (.int at'), .im (.int m), .un, .un, .un, .un, .un, .un, .un, .un]) (asg_to (d := .int m) (by simp [p1, hmE]) rfl (by simp) rfl) ?_
  have sz6 : 6 ≤ sizeLine := sz_le (by decide)
  refine seq_go (r' := [.im (.scr ns), .im (.int at'), .im (.int m), .im (.lst (lawNames.map .str)), .un, .un, .un, .un, .un, .un, .un]) (asg_to (d := .lst (lawNames.map .str)) (by simp [sz6, lawNames]) rfl (by simp) rfl) ?_
  have l : fLc [6, 7] (.tp [(.nm 6), (.nm 7)]) (fEnum true (fConsB (fVar 3) fNil)) (fTest (fBin gtI (fCall 3 F_u_law_pick (fCons (fVar 0) (fCons (fBin addD (fBin addD (fVar 1) (fK (.int 1))) (fVar 6)) (fCons (fK (.int 3)) fNil)))) (fK (.int 0)))) (fVar 7) [.im (.scr ns), .im (.int at'), .im (.int m), .im (.lst (lawNames.map .str)), .un, .un, .un, .un, .un, .un, .un] = .ok ((bNames ns at').map .str) := by
    refine fLc_ok (X := (enl 0 lawNames).map enD) ?_ (by simp [enl_len, lawNames]) ?_
    · rw [← enl_enum]; rfl
    · have q := lcGo_typed (t := .tp [(.nm 6), (.nm 7)]) (ft := fTest (fBin gtI (fCall 3 F_u_law_pick (fCons (fVar 0) (fCons (fBin addD (fBin addD (fVar 1) (fK (.int 1))) (fVar 6)) (fCons (fK (.int 3)) fNil)))) (fK (.int 0)))) (fe := fVar 7) (r := wipeR [.im (.scr ns), .im (.int at'), .im (.int m), .im (.lst (lawNames.map .str)), .un, .un, .un, .un, .un, .un, .un] [6, 7]) enD (fun x => decide (0 < pk ns (at' + 1 + x.1) 3)) (fun x => .str x.2) (enl 0 lawNames) (fun x hx => ⟨[.im (.scr ns), .im (.int at'), .im (.int m), .im (.lst (lawNames.map .str)), .un, .un, .im (.int x.1), .im (.str x.2), .un, .un, .un], by simp [enD], by
          have e := (pick_ok ns (at' + 1 + x.1) 3 (by omega) (by omega)).1
          simp [e], fun _ => ⟨by simp, rfl⟩⟩)
      rw [q]
      unfold bNames
      rw [List.map_map]; rfl
  refine seq_go (r' := [.im (.scr ns), .im (.int at'), .im (.int m), .im (.lst (lawNames.map .str)), .im (.lst ((bNames ns at').map .str)), .un, .un, .un, .un, .un, .un]) (asg_to (fL_of l) rfl (by simp) rfl) ?_
  refine seq_go (r' := [.im (.scr ns), .im (.int at'), .im (.int m), .im (.lst (lawNames.map .str)), .im (.lst ((bNames ns at').map .str)), .ol [], .un, .un, .un, .un, .un]) (by simp) ?_
  have hd : Dep 1 (.lst ((bNames ns at').map .str)) := dep_lst (n := 0) fun d hd => by
    obtain ⟨x, hx, rfl⟩ := List.mem_map.mp hd
    exact dep_str 0 (nm_ok (nm0_nm (.inl ((bNames_sub ns at').subset hx))))
  have en : fEnum false (fConsB (fIf (fTest (fBin neD (fVar 4) (fL (fLst fNil)))) (fVar 4) (fL (fLst (fCons (fK (.str (Str.ofString "sole"))) fNil)))) fNil) [.im (.scr ns), .im (.int at'), .im (.int m), .im (.lst (lawNames.map .str)), .im (.lst ((bNames ns at').map .str)), .ol [], .un, .un, .un, .un, .un] = .ok ((enl 0 (bNames2 ns at')).map enD) := by
    have e := fun r => neD_nil (r := r) hd (by decide)
    rw [← enl_enum]
    unfold bNames2
    cases hb : bNames ns at' with
    | nil =>
      rw [hb] at e
      simp at e
      simp [e, enumD, viewB]
    | cons x xs =>
      rw [hb] at e
      simp at e
      simp [e, enumD, viewB]
  have len6 := (bNames2_ok ns at').2.2.2
  have fo := forGo_fold (t := .tp [(.nm 6), (.nm 7)]) (fb := bkB) enD (fun s : Bk × Sl × Sl × Sl × Sl => [.im (.scr ns), .im (.int at'), .im (.int m), .im (.lst (lawNames.map .str)), .im (.lst ((bNames ns at').map .str)), .ol (s.1.map pD), s.2.1, s.2.2.1, s.2.2.2.1, s.2.2.2.2, .un])
    (fun s x => (s.1 ++ [(x.2, bStand ns at' m x.1)], .im (.int x.1), .im (.str x.2), .im (.int (bTop ns at' x.1)), .im (.int (at' + 20 + 4 * x.1))))
    (fun xs s => s.1.length + xs.length ≤ 6) (enl 0 (bNames2 ns at')) ([], .un, .un, .un, .un) (by simp [enl_len]; exact len6) (fun x xs s hP => by
      rw [List.length_cons] at hP
      refine ⟨by simp; omega, [.im (.scr ns), .im (.int at'), .im (.int m), .im (.lst (lawNames.map .str)), .im (.lst ((bNames ns at').map .str)), .ol (s.1.map pD), .im (.int x.1), .im (.str x.2), s.2.2.2.1, s.2.2.2.2, .un], by simp [enD], .inl (bk_body h0 hm (by omega))⟩)
  have q2 : ∀ (xs : List (Nat × Str)) (s : Bk × Sl × Sl × Sl × Sl), (xs.foldl (fun (s : Bk × Sl × Sl × Sl × Sl) (x : Nat × Str) => (s.1 ++ [(x.2, bStand ns at' m x.1)], Sl.im (.int x.1), Sl.im (.str x.2), Sl.im (.int (bTop ns at' x.1)), Sl.im (.int (at' + 20 + 4 * x.1)))) s).1 = s.1 ++ xs.map fun x => (x.2, bStand ns at' m x.1) := fun xs => by
    induction xs with
    | nil => intro s; simp
    | cons x xs ih => intro s; rw [List.foldl_cons, ih]; simp
  rw [q2] at fo
  refine seq_go (for_go en fo) ?_
  rw [x_fRet, x_fCallB, x_fConsB]
  rfl
end PL
end
section
namespace PL
open PySem PySem.Spec PyProof.Rows L2 PL.G
theorem ret_of {f : Rho → R D} {r : Rho} {d : D} (h : f r = .ok d) (ho : outD r d = .ok d) : fRet f r = .ok (.rt d) := by
  rw [x_fRet, h, bnd_ok, ho]; rfl
def sumR (qs : List Rat) : Rat := qs.foldl (· + ·) 0
theorem F_summed_ok {k : Nat} {qs : List Rat} (hs : ∀ q ∈ qs, Sm k q) (hb : (k + 1) * qs.length ≤ 8000) : F_summed [.lst (qs.map fr)] = .ok (fr (sumR qs)) := by
  have fo := forGo_fold (t := .nm 2) (fb := fAsg (.nm 1) (fCall 2 F_plus (fCons (fVar 1) (fCons (fVar 2) fNil)))) fr (fun s : Rat × Sl => [.im (.lst (qs.map fr)), .im (fr s.1), s.2]) (fun s q => (s.1 + q, .im (fr q)))
    (fun xs s => (∀ q ∈ xs, Sm k q) ∧ ∃ n, Sm n s.1 ∧ n + (k + 1) * xs.length ≤ 8100) qs (0, .un) ⟨hs, 1, sm_zero, by omega⟩ (fun q xs s hP => by
      obtain ⟨p1, n, p2, p3⟩ := hP
      rw [List.length_cons, Nat.mul_succ] at p3
      have hq := p1 q List.mem_cons_self
      refine ⟨⟨fun x hx => p1 x (List.mem_cons_of_mem _ hx), n + k + 1, p2.add hq, by omega⟩, [.im (.lst (qs.map fr)), .im (fr s.1), .im (fr q)], by simp, .inl ?_⟩
      have e := F_plus_ok p2 hq (by omega)
      simp [e])
  have q2 : ∀ (xs : List Rat) (s : Rat × Sl), (xs.foldl (fun (s : Rat × Sl) (q : Rat) => (s.1 + q, Sl.im (fr q))) s).1 = xs.foldl (· + ·) s.1 := fun xs => by
    induction xs with
    | nil => intro s; rfl
    | cons x xs ih => intro s; exact ih _
  rw [q2] at fo
  refine run_rt (r0 := [.im (.lst (qs.map fr)), .un, .un]) rfl ?_
  refine seq_go (r' := [.im (.lst (qs.map fr)), .im (fr 0), .un]) rfl ?_
  refine seq_go (for_go (ds := qs.map fr) rfl fo) ?_
  rfl
def SeqOf (A : D) (xs : List D) : Prop := A = .lst xs ∨ A = .tup xs
theorem SeqOf.view {A : D} {xs : List D} (h : SeqOf A xs) (ow : Bool) (r : Rho) : ∃ b, viewB ow r A = some (b, xs) := by
  rcases h with rfl | rfl
  · exact ⟨_, rfl⟩
  · exact ⟨_, rfl⟩
theorem SeqOf.im {A : D} {xs : List D} (h : SeqOf A xs) : imD A = .ok A := by
  rcases h with rfl | rfl <;> rfl
theorem SeqOf.zip {A B : D} {xs ys : List D} (h : SeqOf A xs) (h' : SeqOf B ys) (ow : Bool) (r : Rho) : zipD ow r [A, B] = .ok (List.zipWith pairD xs ys) := by
  rcases h with rfl | rfl <;> rcases h' with rfl | rfl <;> rfl
theorem SeqOf.items {A : D} {xs : List D} (h : SeqOf A xs) (ow : Bool) (r : Rho) : itemsD ow r A = .ok xs := by
  rcases h with rfl | rfl <;> rfl
theorem SeqOf.len {A : D} {xs : List D} (h : SeqOf A xs) (r : Rho) : lenD r [A] = .ok (.int xs.length) := by
  rcases h with rfl | rfl <;> rfl
theorem fr_int (i : Int) : fr (i : Rat) = .tup [.int i, .int 1] := by simp [fr]
theorem seq_rt {s1 s2 : Rho → R Fl} {r : Rho} {d : D} (h : s1 r = .ok (.rt d)) : fSeq s1 s2 r = .ok (.rt d) := by
  rw [x_fSeq, h]; rfl
theorem F_less_ok {x y : Rat} {n : Nat} (hx : Sm n x) (hy : Sm n y) (hn : n ≤ 4000) : F_is_less [fr x, fr y] = .ok (.bl (decide (x < y))) := by
  have m1 : mulB x.num y.den = true := mulB_bits hx.1 (by simpa using hy.2) (by omega)
  have m2 : mulB y.num x.den = true := mulB_bits hy.1 (by simpa using hx.2) (by omega)
  simp only [F_is_less, x_runF, B_is_less]
  simp [m1, m2, Rat.lt_iff]
theorem int_sm {i : Int} {n : Nat} (h : i.natAbs < 2 ^ n) (hn : 1 ≤ n) : Sm n (i : Rat) := by
  refine ⟨by simpa using h, ?_⟩
  have : 2 ^ 1 ≤ 2 ^ n := Nat.pow_le_pow_right (by decide) hn
  simp
  omega
theorem forGo_inv {α : Type} {t : Tg} {fb : Rho → R Fl} (g : α → D) (P : List α → Rho → Prop) : ∀ (xs : List α), (∀ x ys r, P (x :: ys) r → ∃ r2 r3, setT t (g x) r = .ok r2 ∧ (fb r2 = .ok (.nx r3) ∨ fb r2 = .ok (.ct r3)) ∧ P ys r3) → ∀ r, P xs r → ∃ r', forGo t fb (xs.map g) r = .ok (.nx r') ∧ P [] r'
  | [], _, r, hr => ⟨r, rfl, hr⟩
  | x :: xs, h, r, hr => by
    obtain ⟨r2, r3, h1, h2, h3⟩ := h x xs r hr
    obtain ⟨r', h4, h5⟩ := forGo_inv g P xs h r3 h3
    refine ⟨r', ?_, h5⟩
    rw [List.map_cons, forGo, h1]
    simp only [x_noE_ok, bnd_ok]
    rcases h2 with h2 | h2
    · rw [h2]
      exact h4
    · rw [h2]
      exact h4
theorem forGo_mem {α : Type} {t : Tg} {fb : Rho → R Fl} (g : α → D) (P : Rho → Prop) (xs : List α) (h : ∀ x ∈ xs, ∀ r, P r → ∃ r2 r3, setT t (g x) r = .ok r2 ∧ (fb r2 = .ok (.nx r3) ∨ fb r2 = .ok (.ct r3)) ∧ P r3) (r : Rho) (hr : P r) : ∃ r', forGo t fb (xs.map g) r = .ok (.nx r') ∧ P r' := by
  obtain ⟨r', h1, h2⟩ := forGo_inv (t := t) (fb := fb) g (fun ys r => (∀ y ∈ ys, y ∈ xs) ∧ P r) xs (fun x ys r hP => by
    obtain ⟨r2, r3, q1, q2, q3⟩ := h x (hP.1 x List.mem_cons_self) r hP.2
    exact ⟨r2, r3, q1, q2, fun y hy => hP.1 y (List.mem_cons_of_mem _ hy), q3⟩) r ⟨fun y hy => hy, hr⟩
  exact ⟨r', h1, h2.2⟩
end PL
end
section
namespace PL
open PySem PySem.Spec PyProof.Rows L2 PL.G
section
variable (r : Rho) (f fa fb fc : Rho → R D) (i j l : Nat) (fs : Rho → R (List D))
@[simp] theorem x_fDNew : fDNew i r = if decide (i < r.length) then .ok (.nx (r.set i (.od []))) else .stuck := rfl
@[simp] theorem x_fDV : fDV i r = (match r[i]? with
  | some (.od _) => .ok (.own i)
  | some (.im (.dic ks)) => .ok (.dic ks)
  | _ => .stuck) := rfl
end
abbrev Kv := List (Str × Rat)
def dkD (kv : Kv) : List (Key × D) := kv.map fun x => ((Sum.inr x.1 : Key), fr x.2)
def valR (kv : Kv) (n : Str) : Option Rat := (kv.find? fun x => decide (x.1 = n)).map (·.2)
def putR (kv : Kv) (n : Str) (q : Rat) : Kv := if (kv.any fun x => decide (x.1 = n)) then kv.map fun x => if x.1 = n then (x.1, q) else x else kv ++ [(n, q)]
theorem valD_dk (kv : Kv) (n : Str) : valD (dkD kv) (.inr n) = (valR kv n).map fr := by
  induction kv with
  | nil => rfl
  | cons x kv ih =>
    unfold valD valR dkD at *
    by_cases e : x.1 = n
    · simp [e]
    · have e' : ¬ (Sum.inr x.1 : Key) = Sum.inr n := fun z => e (Sum.inr.inj z)
      simp only [List.map_cons, List.find?_cons, e, e', decide_false]
      exact ih
theorem putD_dk (kv : Kv) (n : Str) (q : Rat) : putD (dkD kv) (.inr n) (fr q) = dkD (putR kv n q) := by
  have a : ((dkD kv).any fun x => decide (x.1 = (Sum.inr n : Key))) = kv.any fun x => decide (x.1 = n) := by
    unfold dkD
    rw [List.any_map]
    congr 1
    funext x
    simp
  unfold putD putR
  rw [a]
  split
  · unfold dkD
    rw [List.map_map, List.map_map]
    apply List.map_congr_left
    intro x _
    simp only [Function.comp]
    by_cases e : x.1 = n
    · simp [e]
    · simp [e]
  · unfold dkD
    simp
theorem valR_nil (n : Str) : valR [] n = none := rfl
theorem valR_cons (x : Str × Rat) (kv : Kv) (n : Str) : valR (x :: kv) n = if x.1 = n then some x.2 else valR kv n := by
  unfold valR
  by_cases e : x.1 = n
  · simp [e]
  · simp [e]
theorem valR_repl (n m : Str) (q : Rat) : ∀ (kv : Kv), (kv.any fun x => decide (x.1 = n)) = true → valR (kv.map fun x => if x.1 = n then (x.1, q) else x) m = if m = n then some q else valR kv m
  | [], h => by simp at h
  | x :: kv, h => by
    rw [List.map_cons, valR_cons, valR_cons]
    by_cases e : x.1 = n
    · by_cases e2 : m = n
      · simp [e, e2]
      · have e3 : ¬ n = m := fun z => e2 z.symm
        have e4 : ¬ x.1 = m := fun z => e2 (z.symm.trans e)
        simp only [e, if_true, e3, if_false, e2, e4]
        by_cases hk : (kv.any fun x => decide (x.1 = n)) = true
        · have := valR_repl n m q kv hk
          rw [if_neg e2] at this
          exact this
        · have z : kv.map (fun x => if x.1 = n then (x.1, q) else x) = kv := by
            have hk' : ∀ y ∈ kv, ¬ y.1 = n := fun y hy e => hk (List.any_eq_true.mpr ⟨y, hy, decide_eq_true e⟩)
            conv => rhs; rw [← List.map_id kv]
            apply List.map_congr_left
            intro y hy
            rw [if_neg (hk' y hy)]; rfl
          rw [z]
    · have h' : (kv.any fun x => decide (x.1 = n)) = true := by
        rw [List.any_cons] at h
        simpa [e] using h
      have ih := valR_repl n m q kv h'
      simp only [e, if_false]
      rw [ih]
      by_cases e2 : m = n
      · have e4 : ¬ x.1 = m := fun z => e (z.trans e2)
        simp [e2, e]
      · simp [e2]
theorem valR_snoc (n m : Str) (q : Rat) : ∀ (kv : Kv), (kv.any fun x => decide (x.1 = n)) = false → valR (kv ++ [(n, q)]) m = if m = n then some q else valR kv m
  | [], _ => by
    rw [List.nil_append, valR_cons, valR_nil]
    by_cases e : m = n
    · simp [e]
    · have e3 : ¬ n = m := fun z => e z.symm
      simp [e, e3]
  | x :: kv, h => by
    rw [List.any_cons, Bool.or_eq_false_iff] at h
    have hx : ¬ x.1 = n := by simpa using h.1
    have ih := valR_snoc n m q kv h.2
    rw [List.cons_append, valR_cons, valR_cons, ih]
    by_cases e : m = n
    · have e4 : ¬ x.1 = m := fun z => hx (z.trans e)
      simp [e, hx]
    · simp [e]
theorem valR_put (kv : Kv) (n m : Str) (q : Rat) : valR (putR kv n q) m = if m = n then some q else valR kv m := by
  unfold putR
  cases e : (kv.any fun x => decide (x.1 = n)) with
  | true => exact valR_repl n m q kv e
  | false => exact valR_snoc n m q kv e
end PL
end
section
namespace PL
open PySem PySem.Spec PyProof.Rows L2 PL.G
def pr (x : Str × Rat) : D := .tup [.str x.1, fr x.2]
def gst (kv : Kv) (x : Str × Rat) : Kv := putR kv x.1 ((valR kv x.1).getD 0 + x.2)
def wOf (kv : Kv) (n : Str) : Rat := (valR kv n).getD 0
theorem wOf_gst (kv : Kv) (x : Str × Rat) (n : Str) : wOf (gst kv x) n = if x.1 = n then wOf kv n + x.2 else wOf kv n := by
  unfold wOf gst
  rw [valR_put]
  by_cases e : x.1 = n
  · rw [if_pos e.symm, if_pos e, e]; rfl
  · rw [if_neg (fun z => e z.symm), if_neg e]
def wSum (ps : Kv) (n : Str) : Rat := ps.foldl (fun s x => if x.1 = n then s + x.2 else s) 0
theorem wOf_fold (ps : Kv) (n : Str) : ∀ kv, wOf (ps.foldl gst kv) n = ps.foldl (fun s x => if x.1 = n then s + x.2 else s) (wOf kv n) := by
  induction ps with
  | nil => intro kv; rfl
  | cons x ps ih =>
    intro kv
    rw [List.foldl_cons, List.foldl_cons, ih, wOf_gst]
theorem putR_keys (kv : Kv) (n : Str) (q : Rat) : (putR kv n q).map (·.1) = if n ∈ kv.map (·.1) then kv.map (·.1) else kv.map (·.1) ++ [n] := by
  have a : (kv.any fun x => decide (x.1 = n)) = true ↔ n ∈ kv.map (·.1) := by
    rw [List.any_eq_true, List.mem_map]
    constructor
    · rintro ⟨x, hx, e⟩; exact ⟨x, hx, of_decide_eq_true e⟩
    · rintro ⟨x, hx, e⟩; exact ⟨x, hx, decide_eq_true e⟩
  unfold putR
  by_cases h : n ∈ kv.map (·.1)
  · rw [if_pos (a.mpr h), if_pos h, List.map_map]
    apply List.map_congr_left
    intro x _
    simp only [Function.comp]
    split <;> rfl
  · rw [if_neg (fun z => h (a.mp z)), if_neg h, List.map_append]
    rfl
structure Kok (N : List Str) (n : Nat) (kv : Kv) : Prop where
  nd : (kv.map (·.1)).Nodup
  sub : ∀ x ∈ kv.map (·.1), x ∈ N
  sm : ∀ m, Sm n (wOf kv m)
theorem Kok.gst {N : List Str} {n k : Nat} {kv : Kv} {x : Str × Rat} (h : Kok N n kv) (hx : x.1 ∈ N) (hq : Sm k x.2) : Kok N (n + k + 1) (gst kv x) where
  nd := by
    unfold PL.gst
    rw [putR_keys]
    split
    · exact h.nd
    · rename_i e
      rw [List.nodup_append]
      exact ⟨h.nd, by simp, fun a ha b hb => by
        rw [List.mem_singleton.mp hb]
        exact fun z => e (z ▸ ha)⟩
  sub := fun y hy => by
    unfold PL.gst at hy
    rw [putR_keys] at hy
    split at hy
    · exact h.sub y hy
    · rcases List.mem_append.mp hy with hy | hy
      · exact h.sub y hy
      · rw [List.mem_singleton.mp hy]; exact hx
  sm := fun m => by
    rw [wOf_gst]
    split
    · exact (h.sm m).add hq
    · exact (h.sm m).mono (by omega)
theorem sub_len : ∀ {l N : List Str}, l.Nodup → (∀ x ∈ l, x ∈ N) → l.length ≤ N.length
  | [], _, _, _ => Nat.zero_le _
  | x :: l, N, hn, hs => by
    obtain ⟨h1, h2⟩ := List.nodup_cons.mp hn
    have hx := hs x List.mem_cons_self
    have ih := sub_len (N := N.erase x) h2 fun y hy => (List.mem_erase_of_ne (a := y) (b := x) (fun z : y = x => h1 (z ▸ hy))).mpr (hs y (List.mem_cons_of_mem _ hy))
    have e := List.length_erase_of_mem hx
    have p := List.length_pos_of_mem hx
    rw [List.length_cons]
    omega
theorem gath_step {ps : List D} {n k : Nat} {N : List Str} {kv : Kv} {x : Str × Rat} (hN : N.length ≤ 60) (h : Kok N n kv) (hq : Sm k x.2) (hb : n + k ≤ 8000) :
    fDPut 1 (fVar 2) (fCall 2 F_plus (fCons (fDGet2 (fDV 1) (fVar 2) (fK d_NOUGHT)) (fCons (fVar 3) fNil))) [.im (.lst ps), .od (dkD kv), .im (.str x.1), .im (fr x.2)] = .ok (.nx [.im (.lst ps), .od (dkD (gst kv x)), .im (.str x.1), .im (fr x.2)]) := by
  have g : fDGet2 (fDV 1) (fVar 2) (fK d_NOUGHT) [.im (.lst ps), .od (dkD kv), .im (.str x.1), .im (fr x.2)] = .ok (fr (wOf kv x.1)) := by
    show R.ok ((valD (dkD kv) (.inr x.1)).getD d_NOUGHT) = _
    rw [valD_dk, fr_nought]
    unfold wOf
    cases valR kv x.1 <;> rfl
  have p := F_plus_ok (h.sm x.1) hq (by omega)
  have c := call_2 (r := [.im (.lst ps), .od (dkD kv), .im (.str x.1), .im (fr x.2)]) g rfl (fb := fVar 3) rfl rfl p
  have l : kv.length ≤ N.length := by
    have := sub_len h.nd h.sub
    simpa using this
  have z : (dkD kv).length < sizeLine := sz_lt' (by unfold dkD; rw [List.length_map]; omega)
  show ((fCall 2 F_plus _ _).bnd _) = _
  rw [c]
  show (if decide ((dkD kv).length < sizeLine) then R.ok (Fl.nx [.im (.lst ps), .od (putD (dkD kv) (.inr x.1) (fr (wOf kv x.1 + x.2))), .im (.str x.1), .im (fr x.2)]) else .stuck) = _
  rw [if_pos (decide_eq_true z), putD_dk]
  rfl
end PL
end
section
namespace PL
open PySem PySem.Spec PyProof.Rows L2 PL.G
def canon (N : List Str) (w : Str → Rat) : Kv := (N.filter fun n => decide (w n ≠ 0)).map fun n => (n, w n)
def Up (N : List Str) : Prop := N.Pairwise fun a b => strLt a b = true
theorem Up.srt {N : List Str} (h : Up N) : Srt N := List.Pairwise.imp (fun {a b} hab => by
  cases e : strLt b a with
  | false => rfl
  | true => have := strLt_trans hab e; rw [strLt_irrefl] at this; cases this) h
theorem Up.nodup {N : List Str} (h : Up N) : N.Nodup := List.Pairwise.imp (fun {a b} hab z => by
  rw [z, strLt_irrefl] at hab; cases hab) h
theorem valR_some {kv : Kv} {n : Str} (h : n ∈ kv.map (·.1)) : valR kv n = some (wOf kv n) := by
  unfold wOf
  cases e : valR kv n with
  | some q => rfl
  | none =>
    exfalso
    obtain ⟨x, hx, rfl⟩ := List.mem_map.mp h
    unfold valR at e
    rw [Option.map_eq_none_iff, List.find?_eq_none] at e
    exact e x hx (decide_eq_true rfl)
theorem wOf_none {kv : Kv} {n : Str} (h : n ∉ kv.map (·.1)) : wOf kv n = 0 := by
  unfold wOf
  cases e : valR kv n with
  | none => rfl
  | some q =>
    exfalso
    unfold valR at e
    rw [Option.map_eq_some_iff] at e
    obtain ⟨x, hx, _⟩ := e
    have h1 := List.mem_of_find?_eq_some hx
    have h2 := List.find?_some hx
    exact h (List.mem_map.mpr ⟨x, h1, of_decide_eq_true h2⟩)
theorem perm_of_mem {l m : List Str} (h1 : l.Nodup) (h2 : m.Nodup) (h : ∀ x, x ∈ l ↔ x ∈ m) : l.Perm m := List.perm_iff_count.mpr fun a => by
  rw [h1.count, h2.count]
  by_cases e : a ∈ l
  · rw [if_pos e, if_pos ((h a).mp e)]
  · rw [if_neg e, if_neg fun z => e ((h a).mpr z)]
theorem filter_eq {N ks : List Str} {p : Str → Bool} (hN : Up N) (hk : ks.Nodup) (hs : ∀ x ∈ ks, x ∈ N) (hp : ∀ x ∈ N, p x = true → x ∈ ks) : (srtT ks).filter p = N.filter p := by
  have n1 : (srtT ks).Nodup := (srtT_perm ks).nodup_iff.mpr hk
  refine srt_uniq (perm_of_mem (n1.filter _) (hN.nodup.filter _) fun x => ?_) ((srtT_srt ks).filter _) (hN.srt.filter _)
  rw [List.mem_filter, List.mem_filter, (srtT_perm ks).mem_iff]
  exact ⟨fun ⟨a, b⟩ => ⟨hs x a, b⟩, fun ⟨a, b⟩ => ⟨hp x a b, b⟩⟩
theorem strsOf_map (xs : List Str) : strsOf (xs.map D.str) = some xs := by
  induction xs with
  | nil => rfl
  | cons x xs ih => simp [strsOf, ih]
theorem kok_fold {N : List Str} {k : Nat} : ∀ (ps kv : Kv) (n : Nat), Kok N n kv → (∀ x ∈ ps, x.1 ∈ N ∧ Sm k x.2) → ∃ n', Kok N n' (ps.foldl gst kv)
  | [], kv, n, h, _ => ⟨n, h⟩
  | x :: ps, kv, n, h, hp => kok_fold ps (gst kv x) (n + k + 1) (h.gst (hp x List.mem_cons_self).1 (hp x List.mem_cons_self).2) fun y hy => hp y (List.mem_cons_of_mem _ hy)
theorem kok_nil (N : List Str) : Kok N 1 [] := ⟨List.nodup_nil, fun x hx => by simp at hx, fun _ => sm_zero⟩
theorem F_gathered_ok {N : List Str} {ps : Kv} {k : Nat} (hN : Up N) (hl : N.length ≤ 60) (hp : ∀ x ∈ ps, x.1 ∈ N ∧ Sm k x.2) (hb : (k + 1) * ps.length ≤ 7000) :
    F_gathered [.lst (ps.map pr)] = .ok (.lst ((canon N (wSum ps)).map pr)) := by
  have fo := forGo_fold (t := .tp [(.nm 2), (.nm 3)]) (fb := fDPut 1 (fVar 2) (fCall 2 F_plus (fCons (fDGet2 (fDV 1) (fVar 2) (fK d_NOUGHT)) (fCons (fVar 3) fNil)))) pr (fun s : Kv × Sl × Sl => [.im (.lst (ps.map pr)), .od (dkD s.1), s.2.1, s.2.2])
    (fun s x => (gst s.1 x, .im (.str x.1), .im (fr x.2))) (fun xs s => (∀ x ∈ xs, x.1 ∈ N ∧ Sm k x.2) ∧ ∃ n, Kok N n s.1 ∧ n + (k + 1) * xs.length ≤ 7001) ps ([], .un, .un) ⟨hp, 1, ⟨List.nodup_nil, fun x hx => by simp at hx, fun _ => sm_zero⟩, by omega⟩ (fun x xs s hP => by
      obtain ⟨p1, n, p2, p3⟩ := hP
      rw [List.length_cons, Nat.mul_succ] at p3
      have hx := p1 x List.mem_cons_self
      exact ⟨⟨fun y hy => p1 y (List.mem_cons_of_mem _ hy), n + k + 1, p2.gst hx.1 hx.2, by omega⟩, [.im (.lst (ps.map pr)), .od (dkD s.1), .im (.str x.1), .im (fr x.2)], by simp [pr], .inl (gath_step hl p2 hx.2 (by omega))⟩)
  obtain ⟨n', kk⟩ := kok_fold (k := k) ps [] 1 (kok_nil N) hp
  have q2 : ∀ (xs : Kv) (s : Kv × Sl × Sl), (xs.foldl (fun (s : Kv × Sl × Sl) x => (gst s.1 x, Sl.im (.str x.1), Sl.im (fr x.2))) s).1 = xs.foldl gst s.1 := fun xs => by
    induction xs with
    | nil => intro s; rfl
    | cons x xs ih => intro s; exact ih _
  obtain ⟨s', hs'⟩ : ∃ s' : Kv × Sl × Sl, s' = ps.foldl (fun (s : Kv × Sl × Sl) x => (gst s.1 x, Sl.im (.str x.1), Sl.im (fr x.2))) ([], .un, .un) := ⟨_, rfl⟩
  rw [← hs'] at fo
  have e1 : s'.1 = ps.foldl gst [] := by rw [hs', q2]
  have hw : ∀ n, wOf s'.1 n = wSum ps n := fun n => by rw [e1, wOf_fold]; rfl
  rw [← e1] at kk
  obtain ⟨kv, x2, x3⟩ := s'
  dsimp only at fo hw kk
  have kl : kv.length ≤ 60 := by
    have := sub_len kk.nd kk.sub
    rw [List.length_map] at this
    omega
  have srl : (srtT (kv.map (·.1))).length = kv.length := by rw [(srtT_perm _).length_eq, List.length_map]
  have so : fL (fCallB sortTD (fConsB (fL (fCallB listKD (fConsB (fDV 1) fNil))) fNil)) [.im (.lst (ps.map pr)), .od (dkD kv), x2, x3] = .ok (.lst ((srtT (kv.map (·.1))).map .str)) := by
    have kd : (dkD kv).map (fun x => keyOfD x.1) = (kv.map (·.1)).map D.str := by
      unfold dkD
      rw [List.map_map, List.map_map]; rfl
    refine fL_of ?_
    show (match strsOf ((dkD kv).map fun x => keyOfD x.1) with
      | some xs => if decide (xs.length < 64) then R.ok ((srtT xs).map D.str) else .stuck
      | none => .stuck) = _
    rw [kd, strsOf_map]
    dsimp only
    rw [if_pos (decide_eq_true (by rw [List.length_map]; omega))]
  have lc : fLc [2] (.nm 2) (fIt true (fL (fCallB sortTD (fConsB (fL (fCallB listKD (fConsB (fDV 1) fNil))) fNil)))) (fTest (fBin neD (fDGet (fDV 1) (fVar 2)) (fK d_NOUGHT))) (fTup (fCons (fVar 2) (fCons (fDGet (fDV 1) (fVar 2)) fNil))) [.im (.lst (ps.map pr)), .od (dkD kv), x2, x3] = .ok ((canon N (wSum ps)).map pr) := by
    refine fLc_ok (X := (srtT (kv.map (·.1))).map .str) (by rw [x_fIt, so]; rfl) (by rw [List.length_map]; omega) ?_
    have q := lcGo_typed (t := .nm 2) (ft := fTest (fBin neD (fDGet (fDV 1) (fVar 2)) (fK d_NOUGHT))) (fe := fTup (fCons (fVar 2) (fCons (fDGet (fDV 1) (fVar 2)) fNil))) (r := wipeR [.im (.lst (ps.map pr)), .od (dkD kv), x2, x3] [2]) D.str (fun n => decide (wSum ps n ≠ 0)) (fun n => pr (n, wSum ps n)) (srtT (kv.map (·.1))) (fun n hn => by
      have hn2 : n ∈ kv.map (·.1) := (srtT_perm _).mem_iff.mp hn
      have g : fDGet (fDV 1) (fVar 2) [.im (.lst (ps.map pr)), .od (dkD kv), .im (.str n), x3] = .ok (fr (wSum ps n)) := by
        show (match valD (dkD kv) (.inr n) with
          | some d => R.ok d
          | none => .stuck) = _
        rw [valD_dk, valR_some hn2, hw]
        rfl
      refine ⟨[.im (.lst (ps.map pr)), .od (dkD kv), .im (.str n), x3], by simp, ?_, fun _ => ⟨?_, rfl⟩⟩
      · rw [x_fTest, x_fBin, g, bnd_ok, fr_nought]
        simp
      · rw [x_fTup, x_fCons, x_fCons, g]
        simp [pr])
    rw [q, filter_eq hN kk.nd kk.sub (fun x hx hpx => by
      rcases Classical.em (x ∈ kv.map (·.1)) with c | c
      · exact c
      · have z := wOf_none c
        rw [hw] at z
        simp [z] at hpx)]
    unfold canon
    rw [List.map_map]; rfl
  refine run_rt (r0 := [.im (.lst (ps.map pr)), .un, .un, .un]) rfl ?_
  refine seq_go (r' := [.im (.lst (ps.map pr)), .od (dkD []), .un, .un]) rfl ?_
  refine seq_go (for_go (ds := ps.map pr) rfl fo) ?_
  exact ret_of (fL_of lc) rfl
end PL
end
section
namespace PL
open PySem PySem.Spec PyProof.Rows L2 PL.G
theorem foldl_add (qs : List Rat) : ∀ s : Rat, qs.foldl (· + ·) s = s + qs.foldl (· + ·) 0 := by
  induction qs with
  | nil => intro s; simp [Rat.add_zero]
  | cons q qs ih =>
    intro s
    rw [List.foldl_cons, List.foldl_cons, ih (s + q), ih (0 + q)]
    grind
theorem sumR_nil : sumR [] = 0 := rfl
theorem sumR_cons (q : Rat) (qs : List Rat) : sumR (q :: qs) = q + sumR qs := by
  unfold sumR
  rw [List.foldl_cons, foldl_add]
  grind
theorem sumR_append (a b : List Rat) : sumR (a ++ b) = sumR a + sumR b := by
  induction a with
  | nil => rw [List.nil_append, sumR_nil]; grind
  | cons q a ih => rw [List.cons_append, sumR_cons, sumR_cons, ih]; grind
theorem sumR_add {α : Type} (xs : List α) (f g : α → Rat) : sumR (xs.map fun x => f x + g x) = sumR (xs.map f) + sumR (xs.map g) := by
  induction xs with
  | nil => simp [sumR_nil, Rat.add_zero]
  | cons x xs ih => simp only [List.map_cons, sumR_cons, ih]; grind
theorem sumR_mul {α : Type} (xs : List α) (f : α → Rat) (c : Rat) : sumR (xs.map fun x => f x * c) = sumR (xs.map f) * c := by
  induction xs with
  | nil => simp [sumR_nil, Rat.zero_mul]
  | cons x xs ih => simp only [List.map_cons, sumR_cons, ih]; grind
theorem sumR_zero {α : Type} (xs : List α) (f : α → Rat) (h : ∀ x ∈ xs, f x = 0) : sumR (xs.map f) = 0 := by
  induction xs with
  | nil => rfl
  | cons x xs ih =>
    rw [List.map_cons, sumR_cons, ih fun y hy => h y (List.mem_cons_of_mem _ hy), h x List.mem_cons_self]
    grind
theorem sumR_le {α : Type} (xs : List α) (f g : α → Rat) (h : ∀ x ∈ xs, f x ≤ g x) : sumR (xs.map f) ≤ sumR (xs.map g) := by
  induction xs with
  | nil => exact Rat.le_refl
  | cons x xs ih =>
    rw [List.map_cons, List.map_cons, sumR_cons, sumR_cons]
    have a := ih fun y hy => h y (List.mem_cons_of_mem _ hy)
    have b := h x List.mem_cons_self
    grind
theorem sumR_filter {α : Type} (xs : List α) (p : α → Bool) (f : α → Rat) (h : ∀ x ∈ xs, p x = false → f x = 0) : sumR ((xs.filter p).map f) = sumR (xs.map f) := by
  induction xs with
  | nil => rfl
  | cons x xs ih =>
    have a := ih fun y hy => h y (List.mem_cons_of_mem _ hy)
    rw [List.map_cons, sumR_cons]
    cases e : p x with
    | true => rw [List.filter_cons_of_pos e, List.map_cons, sumR_cons, a]
    | false =>
      rw [List.filter_cons_of_neg (by simp [e]), a, h x List.mem_cons_self e]
      grind
theorem sumR_one {N : List Str} (hN : N.Nodup) {n : Str} (hn : n ∈ N) (f : Str → Rat) : sumR (N.map fun m => if m = n then f m else 0) = f n := by
  induction N with
  | nil => cases hn
  | cons m N ih =>
    obtain ⟨h1, h2⟩ := List.nodup_cons.mp hN
    rw [List.map_cons, sumR_cons]
    by_cases e : m = n
    · rw [if_pos e, sumR_zero N _ (fun x hx => if_neg (fun z : x = n => h1 (e ▸ z ▸ hx))), e]
      grind
    · rw [if_neg e, ih h2 (by rcases List.mem_cons.mp hn with z | z; exact absurd z.symm e; exact z)]
      grind
theorem wSum_eq (ps : Kv) (n : Str) : wSum ps n = sumR (ps.map fun x => if x.1 = n then x.2 else 0) := by
  have : ∀ s : Rat, ps.foldl (fun s x => if x.1 = n then s + x.2 else s) s = s + sumR (ps.map fun x => if x.1 = n then x.2 else 0) := by
    induction ps with
    | nil => intro s; simp [sumR_nil, Rat.add_zero]
    | cons x ps ih =>
      intro s
      rw [List.foldl_cons, ih, List.map_cons, sumR_cons]
      split <;> grind
  unfold wSum
  rw [this]
  grind
theorem wSum_append (a b : Kv) (n : Str) : wSum (a ++ b) n = wSum a n + wSum b n := by
  rw [wSum_eq, wSum_eq, wSum_eq, List.map_append, sumR_append]
theorem canon_congr {N : List Str} {w v : Str → Rat} (h : ∀ n ∈ N, w n = v n) : canon N w = canon N v := by
  unfold canon
  have e : (N.filter fun n => decide (w n ≠ 0)) = N.filter fun n => decide (v n ≠ 0) := by
    apply List.filter_congr
    intro n hn
    rw [h n hn]
  rw [e]
  apply List.map_congr_left
  intro n hn
  rw [h n (List.mem_filter.mp hn).1]
theorem canon_mem {N : List Str} {w : Str → Rat} {x : Str × Rat} : x ∈ canon N w ↔ x.1 ∈ N ∧ w x.1 ≠ 0 ∧ x.2 = w x.1 := by
  unfold canon
  rw [List.mem_map]
  constructor
  · rintro ⟨n, hn, rfl⟩
    obtain ⟨h1, h2⟩ := List.mem_filter.mp hn
    exact ⟨h1, of_decide_eq_true h2, rfl⟩
  · rintro ⟨h1, h2, h3⟩
    exact ⟨x.1, List.mem_filter.mpr ⟨h1, decide_eq_true h2⟩, by rw [← h3]⟩
theorem canon_fst (N : List Str) (w : Str → Rat) : (canon N w).map (·.1) = N.filter fun n => decide (w n ≠ 0) := by
  unfold canon
  rw [List.map_map]
  exact List.map_id _
theorem canon_len (N : List Str) (w : Str → Rat) : (canon N w).length ≤ N.length := by
  unfold canon
  rw [List.length_map]
  exact List.length_filter_le _ _
theorem sumR_canon (N : List Str) (w : Str → Rat) (g : Str × Rat → Rat) (h : ∀ n, g (n, 0) = 0) : sumR ((canon N w).map g) = sumR (N.map fun n => g (n, w n)) := by
  unfold canon
  rw [List.map_map, ← sumR_filter N (fun n => decide (w n ≠ 0)) (fun n => g (n, w n))]
  · rfl
  · intro n _ e
    have : w n = 0 := by simpa using e
    rw [this, h]
theorem wSum_scaled {N : List Str} (hN : N.Nodup) (w : Str → Rat) (c : Rat) {n : Str} (hn : n ∈ N) : wSum ((canon N w).map fun x => (x.1, x.2 * c)) n = w n * c := by
  rw [wSum_eq, List.map_map]
  have := sumR_canon N w (fun x => if x.1 = n then x.2 * c else 0) (fun m => by simp only []; split <;> grind)
  refine this.trans ?_
  exact sumR_one hN hn fun m => w m * c
structure Wt (N : List Str) (k : Nat) (w : Str → Rat) : Prop where
  pos : ∀ n ∈ N, 0 ≤ w n
  sm : ∀ n ∈ N, Sm k (w n)
  sum : sumR (N.map w) = 1
theorem Wt.mono {N : List Str} {k l : Nat} {w : Str → Rat} (h : Wt N k w) (e : k ≤ l) : Wt N l w := ⟨h.pos, fun n hn => (h.sm n hn).mono e, h.sum⟩
def mixW (w v : Str → Rat) (p : Rat) : Str → Rat := fun n => w n * (1 - p) + v n * p
theorem Wt.mix {N : List Str} {k l : Nat} {w v : Str → Rat} {p : Rat} (hw : Wt N k w) (hv : Wt N k v) (h0 : 0 ≤ p) (h1 : p ≤ 1) (hp : Sm l p) : Wt N (k + k + l + l + 3) (mixW w v p) where
  pos := fun n hn => by
    have a := Rat.mul_nonneg (hw.pos n hn) (show (0 : Rat) ≤ 1 - p by grind)
    have b := Rat.mul_nonneg (hv.pos n hn) h0
    unfold mixW
    grind
  sm := fun n hn => by
    have o : Sm 1 (1 : Rat) := ⟨by decide, by decide⟩
    exact (((hw.sm n hn).mul (o.sub hp)).add ((hv.sm n hn).mul hp)).mono (by omega)
  sum := by
    show sumR (N.map fun n => w n * (1 - p) + v n * p) = 1
    rw [sumR_add, sumR_mul, sumR_mul, hw.sum, hv.sum]
    grind
end PL
end
section
namespace PL
open PySem PySem.Spec PyProof.Rows L2 PL.G
def nms (b : Bk) : List Str := b.map (·.1)
theorem Bok.up {m : Nat} {b : Bk} (h : Bok m b) : Up (nms b) := List.pairwise_map.mpr h.srt
theorem Bok.nlen {m : Nat} {b : Bk} (h : Bok m b) : (nms b).length ≤ 6 := by rw [nms, List.length_map]; exact h.l6
theorem Bok.nmOk {m : Nat} {b : Bk} (h : Bok m b) {n : Str} (hn : n ∈ nms b) : Nm n := by
  obtain ⟨p, hp, rfl⟩ := List.mem_map.mp hn
  exact h.nm p hp
theorem inB_strs (n : Str) (xs : List Str) : inB (.str n) (xs.map .str) = decide (n ∈ xs) := by
  unfold inB
  rw [List.map_map]
  show ((xs.map (fv ∘ D.str)).any fun y => eqV y (.str n)) = _
  rw [List.any_map]
  induction xs with
  | nil => rfl
  | cons x xs ih =>
    rw [List.any_cons, ih]
    have e : (((fun y => eqV y (.str n)) ∘ (fv ∘ D.str)) x) = decide (n = x) := by
      show (x == n) = _
      by_cases z : n = x
      · subst z; simp
      · have z2 : ¬ x = n := fun y => z y.symm
        simp [z, z2]
    rw [e]
    by_cases z : n = x <;> simp [z]
theorem flat_strs (xs : List Str) : (xs.map D.str).all flatD = true := by
  rw [List.all_map, List.all_eq_true]; intro x _; rfl
theorem in_strs (r : Rho) (neg : Bool) (n : Str) (xs : List Str) : inG neg r (.str n) (.lst (xs.map .str)) = .ok (.bl (if neg then !decide (n ∈ xs) else decide (n ∈ xs))) := by
  show (if flatD (.str n) && (xs.map D.str).all flatD then R.ok (D.bl (if neg then !inB (.str n) (xs.map .str) else inB (.str n) (xs.map .str))) else .stuck) = _
  rw [flat_strs, inB_strs]; rfl
theorem lc_firsts {i : Nat} {r : Rho} {fi : Rho → R (List D)} {b : Bk} (h1 : fi r = .ok (b.map pD)) (hl : b.length ≤ 1000) (hi : i < r.length) :
    fLc [i] (.nm i) fi (fun _ => .ok true) (fBin ixD (fVar i) (fK (.int 0))) r = .ok ((nms b).map .str) := by
  refine fLc_ok h1 (by simp; omega) ?_
  rw [nms, List.map_map]
  refine lcGo_all (t := .nm i) pD (D.str ∘ fun p => p.1) b fun p _ => ⟨(wipeR r [i]).set i (.im (pD p)), by simp [hi], ?_, rfl⟩
  simp [hi, pD]
theorem F_hasname {m : Nat} {b : Bk} (h : Bok m b) {n : Str} (hn : Nm n) : F_has_name [bkD b, .str n] = .ok (.bl (decide (n ∈ nms b))) := by
  have e := nm_name hn
  have h6 := h.l6
  have l := lc_firsts (i := 2) (r := [.im (bkD b), .im (.str n), .un]) (fi := fIt true (fVar 0)) (b := b) rfl (by omega) (by simp)
  refine run_rt (r0 := [.im (bkD b), .im (.str n), .un]) rfl ?_
  refine ret_of ?_ rfl
  rw [x_fAndV, call_1 (a := .str n) rfl rfl e]
  simp only [bnd_ok, x_boolOf, if_true]
  rw [x_fBin, fL_of l, x_fVar]
  exact in_strs [.im (bkD b), .im (.str n), .un] false n (nms b)
theorem F_hasname' {m : Nat} {b : Bk} (h : Bok m b) {n : Str} (hn : n ∈ nms b) : F_has_name [bkD b, .str n] = .ok (.bl true) := by
  rw [F_hasname h (h.nmOk hn), decide_eq_true hn]
theorem seenT_perm : ∀ (xs ks : List Str), (∀ x ∈ xs, x ∉ ks) → xs.Nodup → (seenT ks xs).Perm (ks ++ xs)
  | [], ks, _, _ => by rw [List.append_nil]; exact .refl _
  | x :: xs, ks, h, hn => by
    obtain ⟨h1, h2⟩ := List.nodup_cons.mp hn
    show (seenT (if x ∈ ks then ks else x :: ks) xs).Perm _
    rw [if_neg (h x List.mem_cons_self)]
    refine (seenT_perm xs (x :: ks) (fun y hy hk => ?_) h2).trans ?_
    · rcases List.mem_cons.mp hk with e | e
      · exact h1 (e ▸ hy)
      · exact h y (List.mem_cons_of_mem _ hy) e
    · exact List.perm_middle.symm
theorem srt_seen {xs : List Str} (h : Up xs) : srtT (seenT [] xs) = xs :=
  srt_uniq ((srtT_perm _).trans (seenT_perm xs [] (fun _ _ z => by cases z) h.nodup)) (srtT_srt _) h.srt
theorem dep_strs {xs : List Str} (h : ∀ x ∈ xs, PyData.strOk x = true) : Dep 1 (.lst (xs.map .str)) := dep_lst (n := 0) fun d hd => by
  obtain ⟨x, hx, rfl⟩ := List.mem_map.mp hd
  exact dep_str 0 (h x hx)
theorem dep_pr {x : Str × Rat} (h : PyData.strOk x.1 = true) : Dep 2 (pr x) := dep_tup (n := 1) fun d hd => by
  rcases List.mem_cons.mp hd with rfl | hd
  · exact dep_str 1 h
  · rw [List.mem_singleton.mp hd]; exact dep_fr _
theorem canon_dep {m : Nat} {b : Bk} (h : Bok m b) (w : Str → Rat) : Dep 3 (.lst ((canon (nms b) w).map pr)) := dep_lst (n := 2) fun d hd => by
  obtain ⟨x, hx, rfl⟩ := List.mem_map.mp hd
  exact dep_pr (nm_ok (h.nmOk (canon_mem.mp hx).1))
theorem F_areshin {m k : Nat} {b : Bk} {w : Str → Rat} {A : D} (h : Bok m b) (hw : Wt (nms b) k w) (hk : k ≤ 1000) (hA : SeqOf A ((canon (nms b) w).map pr)) : F_are_shares_in [bkD b, A] = .ok (.bl true) := by
  have h6 := h.nlen
  have cl := canon_len (nms b) w
  have own : ∀ r, ownL r A = true := fun r => by rcases hA with rfl | rfl <;> rfl
  have ty : (isTy A "list" || isTy A "tuple") = true := by rcases hA with rfl | rfl <;> rfl
  obtain ⟨r', f1, x2, rfl⟩ := forGo_mem (t := .nm 2) (fb := (fSeq (fIfS (fOr (fNot (fTest (fIsi ["tuple"] (fVar 2)))) (fOr (fTest (fBin neD (fCallB lenD (fConsB (fVar 2) fNil)) (fK (.int 2)))) (fNot (fTest (fCall 2 F_has_name (fCons (fVar 0) (fCons (fBin ixD (fVar 2) (fK (.int 0))) fNil))))))) (fRet (fK (.bl false))) fNx)
    (fIfS (fOr (fNot (fTest (fCall 1 F_is_fraction (fCons (fBin ixD (fVar 2) (fK (.int 1))) fNil)))) (fTest (fBin leD (fBin ixD (fBin ixD (fVar 2) (fK (.int 1))) (fK (.int 0))) (fK (.int 0))))) (fRet (fK (.bl false))) fNx))) pr (fun r => ∃ x, r = [.im (bkD b), .im A, x, .un]) (canon (nms b) w) (fun x hx r hr => by
      obtain ⟨y, rfl⟩ := hr
      obtain ⟨c1, c2, c3⟩ := canon_mem.mp hx
      have e1 := F_hasname' h c1
      have e2 := F_isfr x.2
      have np : ¬ x.2.num ≤ 0 := by
        have p := hw.pos x.1 c1
        rw [← c3] at p c2
        have z : x.2.num ≠ 0 := fun z => c2 (Rat.num_eq_zero.mp z)
        have := Rat.num_nonneg.mpr p
        omega
      have i0 : imD (bkD b) = .ok (bkD b) := rfl
      refine ⟨[.im (bkD b), .im A, .im (pr x), .un], [.im (bkD b), .im A, .im (pr x), .un], by simp, .inl ?_, ⟨_, rfl⟩⟩
      refine seq_go (if_skip (or_no (by simp [pr]) (or_no (by simp [pr]) ?_))) (if_skip (or_no ?_ ?_))
      · rw [x_fNot, x_fTest, call_2 (a := bkD b) (b := .str x.1) rfl i0 (by simp [pr]) rfl e1]; rfl
      · rw [x_fNot, x_fTest, call_1 (a := fr x.2) (by simp [pr]) rfl e2]; rfl
      · simp [pr, fr, np]) [.im (bkD b), .im A, .un, .un] ⟨_, rfl⟩
  have l1 : fLc [2] (.nm 2) (fIt true (fVar 1)) (fun _ => .ok true) (fBin ixD (fVar 2) (fK (.int 0))) [.im (bkD b), .im A, x2, .un] = .ok (((canon (nms b) w).map (·.1)).map .str) := by
    refine fLc_ok (X := (canon (nms b) w).map pr) (by rw [x_fIt]; exact hA.items true _) (by simp; omega) ?_
    rw [List.map_map]
    exact lcGo_all (t := .nm 2) (fe := fBin ixD (fVar 2) (fK (.int 0))) (r := wipeR [.im (bkD b), .im A, x2, .un] [2]) pr (D.str ∘ fun p => p.1) (canon (nms b) w) fun p _ => ⟨[.im (bkD b), .im A, .im (pr p), .un], by simp, by simp [pr], rfl⟩
  have l2 : ∀ x3 : Sl, fLc [2] (.nm 2) (fIt true (fVar 1)) (fun _ => .ok true) (fBin ixD (fVar 2) (fK (.int 1))) [.im (bkD b), .im A, x2, x3] = .ok (((canon (nms b) w).map (·.2)).map fr) := fun x3 => by
    refine fLc_ok (X := (canon (nms b) w).map pr) (by rw [x_fIt]; exact hA.items true _) (by simp; omega) ?_
    rw [List.map_map]
    exact lcGo_all (t := .nm 2) (fe := fBin ixD (fVar 2) (fK (.int 1))) (r := wipeR [.im (bkD b), .im A, x2, x3] [2]) pr (fr ∘ fun p => p.2) (canon (nms b) w) fun p _ => ⟨[.im (bkD b), .im A, .im (pr p), x3], by simp, by simp [pr], rfl⟩
  have up2 : Up ((canon (nms b) w).map (·.1)) := by
    rw [canon_fst]
    exact List.Pairwise.sublist List.filter_sublist h.up
  have s1 := F_summed_ok (k := k) (qs := (canon (nms b) w).map (·.2)) (fun q hq => by
    obtain ⟨x, hx, rfl⟩ := List.mem_map.mp hq
    obtain ⟨c1, c2, c3⟩ := canon_mem.mp hx
    rw [c3]
    exact hw.sm _ c1) (by
      rw [List.length_map]
      have a1 : (canon (nms b) w).length ≤ 6 := by omega
      have := Nat.mul_le_mul (show k + 1 ≤ 1001 by omega) a1
      omega)
  rw [sumR_canon (nms b) w (·.2) (fun _ => rfl), hw.sum] at s1
  have ss : fSortSet (fVar 3) [.im (bkD b), .im A, x2, .im (.lst (((canon (nms b) w).map (·.1)).map .str))] = .ok (((canon (nms b) w).map (·.1)).map .str) := by
    show (match strsOf (((canon (nms b) w).map (·.1)).map D.str) with
      | some xs => if decide (xs.length < 64) then R.ok ((srtT (seenT [] xs)).map D.str) else .stuck
      | none => .stuck) = _
    rw [strsOf_map]
    dsimp only
    rw [if_pos (decide_eq_true (by rw [List.length_map]; omega)), srt_seen up2]
  have eq1 := eqD_self (r := [.im (bkD b), .im A, x2, .im (.lst (((canon (nms b) w).map (·.1)).map .str))]) (dep_strs (xs := (canon (nms b) w).map (·.1)) (fun x hx => by
    obtain ⟨y, hy, rfl⟩ := List.mem_map.mp hx
    exact nm_ok (h.nmOk (canon_mem.mp hy).1))) (by decide)
  refine run_rt (r0 := [.im (bkD b), .im A, .un, .un]) rfl ?_
  refine seq_go (if_skip (by
    simp only [x_fNot, x_fTest, x_fIsi, x_fVar, List.getElem?_cons_succ, List.getElem?_cons_zero, bnd_ok, own, if_true, List.any_cons, List.any_nil, Bool.or_false, ty, x_boolOf, Bool.not_true])) ?_
  refine seq_go (for_go (ds := (canon (nms b) w).map pr) (hA.items false _) f1) ?_
  refine seq_go (r' := [.im (bkD b), .im A, x2, .im (.lst (((canon (nms b) w).map (·.1)).map .str))]) (asg_to (fL_of l1) rfl (by simp) rfl) ?_
  refine ret_of ?_ rfl
  rw [x_fAndV, x_fBin, x_fVar]
  show (((fL (fSortSet (fVar 3)) _).bnd fun y => eqD _ _ y).bnd _) = _
  rw [fL_of ss, bnd_ok, eq1]
  show fBin eqD _ _ _ = _
  rw [x_fBin, call_1 (fL_of (l2 _)) rfl s1, bnd_ok]
  show eqD _ (fr 1) d_ONE = _
  have : d_ONE = fr 1 := rfl
  rw [this, eqD_fr]; rfl
theorem F_areshares {m k : Nat} {b : Bk} {w : Str → Rat} {A : D} (h : Bok m b) (hw : Wt (nms b) k w) (hk : k ≤ 1000) (hA : SeqOf A ((canon (nms b) w).map pr)) : F_are_shares [bkD b, A] = .ok (.bl true) := by
  have e := F_areshin h hw hk hA
  refine run_rt (r0 := [.im (bkD b), .im A]) rfl ?_
  refine seq_go (r' := [.im (bkD b), .im A]) (by rw [x_fExpr, call_1 rfl rfl (F_lookbook h)]; rfl) ?_
  exact ret_of (call_2 rfl rfl rfl hA.im e) rfl
theorem lc_scaled {i j l c : Nat} {r : Rho} {A : D} {ps : Kv} {p : Rat} {k k2 : Nat} (hA : SeqOf A (ps.map pr)) (hl : ps.length ≤ 1000) (hc : r[c]? = some (.im (fr p))) (ha : r[l]? = some (.im A)) (hi : i < r.length) (hj : j < r.length) (e1 : i ≠ j) (e2 : i ≠ c) (e3 : j ≠ c) (hs : ∀ x ∈ ps, Sm k x.2) (hp : Sm k2 p) (hk : k + k2 ≤ 8000) :
    fLc [i, j] (.tp [(.nm i), (.nm j)]) (fIt true (fVar l)) (fun _ => .ok true) (fTup (fCons (fVar i) (fCons (fCall 2 F_times (fCons (fVar j) (fCons (fVar c) fNil))) fNil))) r = .ok ((ps.map fun x => (x.1, x.2 * p)).map pr) := by
  refine fLc_ok (X := ps.map pr) (by rw [x_fIt, x_fVar, ha]; exact hA.items true _) (by simp; omega) ?_
  rw [List.map_map]
  refine lcGo_all (t := .tp [(.nm i), (.nm j)]) pr (pr ∘ fun x => (x.1, x.2 * p)) ps fun x hx => ⟨((wipeR r [i, j]).set i (.im (.str x.1))).set j (.im (fr x.2)), by simp [pr, hi, hj], ?_, rfl⟩
  have t := F_times_ok (hs x hx) hp (by omega)
  have g1 : (((wipeR r [i, j]).set i (.im (.str x.1))).set j (.im (fr x.2)))[i]? = some (.im (.str x.1)) := by
    rw [List.getElem?_set_ne (Ne.symm e1), List.getElem?_set_self (by simp; exact hi)]
  have g2 : (((wipeR r [i, j]).set i (.im (.str x.1))).set j (.im (fr x.2)))[j]? = some (.im (fr x.2)) := by
    rw [List.getElem?_set_self (by simp; exact hj)]
  have g3 : (((wipeR r [i, j]).set i (.im (.str x.1))).set j (.im (fr x.2)))[c]? = some (.im (fr p)) := by
    rw [List.getElem?_set_ne e3, List.getElem?_set_ne e2]
    simp [e2, e3, hc]
  rw [x_fTup, x_fCons, x_fVar, g1, x_fCons, call_2 (a := fr x.2) (b := fr p) (by rw [x_fVar, g2]) rfl (by rw [x_fVar, g3]) rfl t]
  simp [pr]
theorem canon_sm {N : List Str} {k : Nat} {w : Str → Rat} (hw : ∀ n ∈ N, Sm k (w n)) : ∀ x ∈ canon N w, Sm k x.2 := fun x hx => by
  obtain ⟨c1, c2, c3⟩ := canon_mem.mp hx
  rw [c3]
  exact hw _ c1
theorem F_ledover {N : List Str} {k k2 : Nat} {w v : Str → Rat} {p : Rat} {A B : D} (hN : Up N) (hl : N.length ≤ 60) (hw : ∀ n ∈ N, Sm k (w n)) (hv : ∀ n ∈ N, Sm k (v n)) (hp : Sm k2 p) (hA : SeqOf A ((canon N w).map pr)) (hB : SeqOf B ((canon N v).map pr)) (hk : (k + k2 + 3) * (N.length + N.length) ≤ 7000) (hk' : k + k2 ≤ 7000) :
    F_led_over [A, B, fr p] = .ok (.lst ((canon N (mixW w v p)).map pr)) := by
  have cl1 := canon_len N w
  have cl2 := canon_len N v
  have e1 := F_minus_ok sm_one hp (by omega)
  have sr := sm_one.sub hp
  have l1 := lc_scaled (i := 5) (j := 6) (l := 0) (c := 3) (r := [.im A, .im B, .im (fr p), .im (fr (1 - p)), .un, .un, .un]) hA (by omega) rfl rfl (by simp) (by simp) (by decide) (by decide) (by decide) (canon_sm hw) sr (by omega)
  have l2 := lc_scaled (i := 5) (j := 6) (l := 1) (c := 2) (r := [.im A, .im B, .im (fr p), .im (fr (1 - p)), .im (.lst (((canon N w).map fun x => (x.1, x.2 * (1 - p))).map pr)), .un, .un]) hB (by omega) rfl rfl (by simp) (by simp) (by decide) (by decide) (by decide) (canon_sm hv) hp (by omega)
  have g := F_gathered_ok (N := N) (ps := ((canon N w).map fun x => (x.1, x.2 * (1 - p))) ++ ((canon N v).map fun x => (x.1, x.2 * p))) (k := k + (1 + k2 + 1)) hN hl (fun x hx => by
    rcases List.mem_append.mp hx with hx | hx
    · obtain ⟨y, hy, rfl⟩ := List.mem_map.mp hx
      exact ⟨(canon_mem.mp hy).1, (canon_sm hw y hy).mul sr⟩
    · obtain ⟨y, hy, rfl⟩ := List.mem_map.mp hx
      exact ⟨(canon_mem.mp hy).1, ((canon_sm hv y hy).mul hp).mono (by omega)⟩) (by
        rw [List.length_append, List.length_map, List.length_map]
        have := Nat.mul_le_mul_left (k + k2 + 3) (Nat.add_le_add cl1 cl2)
        have e : k + (1 + k2 + 1) + 1 = k + k2 + 3 := by omega
        rw [e]
        omega)
  rw [canon_congr (w := wSum (((canon N w).map fun x => (x.1, x.2 * (1 - p))) ++ ((canon N v).map fun x => (x.1, x.2 * p)))) (v := mixW w v p) (fun n hn => by rw [wSum_append, wSum_scaled hN.nodup _ _ hn, wSum_scaled hN.nodup _ _ hn]; rfl)] at g
  have o1 : d_ONE = fr 1 := rfl
  refine run_rt (r0 := [.im A, .im B, .im (fr p), .un, .un, .un, .un]) rfl ?_
  refine seq_go (r' := [.im A, .im B, .im (fr p), .im (fr (1 - p)), .un, .un, .un]) (asg_to (call_2 (a := fr 1) (b := fr p) (show fK d_ONE _ = R.ok (fr 1) from rfl) rfl rfl rfl e1) rfl (by simp) rfl) ?_
  refine seq_go (r' := [.im A, .im B, .im (fr p), .im (fr (1 - p)), .im (.lst (((canon N w).map fun x => (x.1, x.2 * (1 - p))).map pr)), .un, .un]) (asg_to (fL_of l1) rfl (by simp) rfl) ?_
  refine ret_of (call_1 (a := .lst ((((canon N w).map fun x => (x.1, x.2 * (1 - p))) ++ ((canon N v).map fun x => (x.1, x.2 * p))).map pr)) ?_ rfl g) rfl
  rw [x_fBin]
  show ((fL _ _).bnd fun y => addD _ _ y) = _
  refine (congrArg (fun z => R.bnd z _) (fL_of l2)).trans ?_
  rw [bnd_ok, x_addD_lst, if_pos (decide_eq_true (sz_le (by simp; omega))), List.map_append]
end PL
end
section
namespace PL
open PySem PySem.Spec PyProof.Rows L2 PL.G
def stV (b : Bk) (n : Str) (j : Nat) : Int := (((b.find? fun p => decide (p.1 = n)).map fun p => p.2[j]?.getD 0)).getD 0
theorem Bok.nodup {m : Nat} {b : Bk} (h : Bok m b) : (nms b).Nodup := h.up.nodup
theorem filter_one : ∀ {b : Bk}, (nms b).Nodup → ∀ {p : Str × List Int}, p ∈ b → (b.filter fun q => decide (q.1 = p.1)) = [p]
  | [], _, _, hp => by cases hp
  | q :: b, hn, p, hp => by
    obtain ⟨h1, h2⟩ := List.nodup_cons.mp (show (q.1 :: nms b).Nodup from hn)
    rcases List.mem_cons.mp hp with e | e
    · rw [List.filter_cons_of_pos (by simp [e]), e]
      congr 1
      rw [List.filter_eq_nil_iff]
      intro y hy z
      exact h1 (by
        rw [← of_decide_eq_true z]
        exact List.mem_map.mpr ⟨y, hy, rfl⟩)
    · have ne : ¬ q.1 = p.1 := fun z => h1 (by rw [z]; exact List.mem_map.mpr ⟨p, e, rfl⟩)
      rw [List.filter_cons_of_neg (by simp [ne])]
      exact filter_one h2 e
theorem stV_of {b : Bk} (hn : (nms b).Nodup) {p : Str × List Int} (hp : p ∈ b) (j : Nat) : stV b p.1 j = p.2[j]?.getD 0 := by
  unfold stV
  rw [← List.head?_filter, filter_one hn hp]
  rfl
theorem F_standin {m : Nat} {b : Bk} (h : Bok m b) {p : Str × List Int} (hp : p ∈ b) : F_stand_in [bkD b, .str p.1] = .ok (.tup (p.2.map .int)) := by
  have h6 := h.l6
  have l : fLc [2, 3] (.tp [(.nm 2), (.nm 3)]) (fIt true (fVar 0)) (fTest (fBin eqD (fVar 2) (fVar 1))) (fVar 3) [.im (bkD b), .im (.str p.1), .un, .un] = .ok [.tup (p.2.map .int)] := by
    refine fLc_ok (X := b.map pD) rfl (by simp; omega) ?_
    have q := lcGo_typed (t := .tp [(.nm 2), (.nm 3)]) (ft := fTest (fBin eqD (fVar 2) (fVar 1))) (fe := fVar 3) (r := wipeR [.im (bkD b), .im (.str p.1), .un, .un] [2, 3]) pD (fun q => decide (q.1 = p.1)) (fun q => .tup (q.2.map .int)) b (fun q hq => ⟨[.im (bkD b), .im (.str p.1), .im (.str q.1), .im (.tup (q.2.map .int))], by simp [pD], by
      have e := eqD_str (r := [.im (bkD b), .im (.str p.1), .im (.str q.1), .im (.tup (q.2.map .int))]) (nm_ok (h.nm q hq)) (nm_ok (h.nm p hp))
      simp [e]
      by_cases z : q.1 = p.1 <;> simp [z], fun _ => ⟨by simp, rfl⟩⟩)
    rw [q, filter_one h.nodup hp]
    rfl
  refine run_rt (r0 := [.im (bkD b), .im (.str p.1), .un, .un]) rfl ?_
  refine ret_of ?_ rfl
  rw [x_fBin, fL_of l]
  rfl
def wor (b : Bk) (w : Str → Rat) (j : Nat) : Rat := sumR ((nms b).map fun n => w n * (stV b n j : Rat))
theorem ix_tup {r : Rho} {ds : List D} {j : Nat} {d : D} (h : ds[j]? = some d) : ixD r (.tup ds) (.int j) = .ok d := by
  rw [x_ixD_tup, L2.atI_nat h]
theorem ix_lst {r : Rho} {ds : List D} {j : Nat} {d : D} (h : ds[j]? = some d) : ixD r (.lst ds) (.int j) = .ok d := by
  rw [x_ixD_lst, L2.atI_nat h]
theorem ix_ints (r : Rho) (xs : List Int) (j : Nat) (h : j < xs.length) : ixD r (.tup (xs.map .int)) (.int j) = .ok (.int (xs[j]?.getD 0)) := by
  have e : xs[j]? = some xs[j] := List.getElem?_eq_getElem h
  refine ix_tup ?_
  rw [List.getElem?_map, e]; rfl
theorem stV_sm {m : Nat} {b : Bk} (h : Bok m b) (n : Str) (j : Nat) : Sm 10 (stV b n j : Rat) := by
  refine int_sm ?_ (by decide)
  unfold stV
  cases e : b.find? fun p => decide (p.1 = n) with
  | none => show (0 : Int).natAbs < 2 ^ 10; decide
  | some p =>
    have hp := List.mem_of_find?_eq_some e
    show (p.2[j]?.getD 0).natAbs < 2 ^ 10
    cases e2 : p.2[j]? with
    | none => show (0 : Int).natAbs < 2 ^ 10; decide
    | some i =>
      have := h.rg p hp i (List.mem_of_getElem? e2)
      show i.natAbs < 2 ^ 10
      omega
theorem lc_prod {m k j : Nat} {b : Bk} {w : Str → Rat} {A : D} {s2 : Sl} (h : Bok m b) (hw : ∀ n ∈ nms b, Sm k (w n)) (hk : k ≤ 900) (hA : SeqOf A ((canon (nms b) w).map pr)) (hj : j < m) :
    fLc [4, 5] (.tp [(.nm 4), (.nm 5)]) (fIt true (fVar 1)) (fun _ => .ok true) (fCall 2 F_times (fCons (fVar 5) (fCons (fTup (fCons (fBin ixD (fCall 2 F_stand_in (fCons (fVar 0) (fCons (fVar 4) fNil))) (fVar 3)) (fCons (fK (.int 1)) fNil))) fNil))) [.im (bkD b), .im A, s2, .im (.int j), .un, .un] = .ok (((canon (nms b) w).map fun x => x.2 * (stV b x.1 j : Rat)).map fr) := by
  have h6 := h.nlen
  have cl := canon_len (nms b) w
  refine fLc_ok (X := (canon (nms b) w).map pr) (hA.items true _) (by simp; omega) ?_
  rw [List.map_map]
  refine lcGo_all (t := .tp [(.nm 4), (.nm 5)]) pr (fr ∘ fun x => x.2 * (stV b x.1 j : Rat)) (canon (nms b) w) fun x hx => ⟨[.im (bkD b), .im A, s2, .im (.int j), .im (.str x.1), .im (fr x.2)], by simp [pr], ?_, rfl⟩
  obtain ⟨c1, c2, c3⟩ := canon_mem.mp hx
  obtain ⟨p, hp, hpx⟩ := List.mem_map.mp c1
  have e := F_standin h hp
  rw [hpx] at e
  have t := F_times_ok (x := x.2) (by rw [c3]; exact hw _ c1) (stV_sm h x.1 j) (by omega)
  have i := ix_ints [.im (bkD b), .im A, s2, .im (.int j), .im (.str x.1), .im (fr x.2)] p.2 j (by rw [h.ln p hp]; exact hj)
  rw [← stV_of h.nodup hp j, hpx] at i
  refine call_2 (a := fr x.2) (b := fr (stV b x.1 j : Rat)) rfl rfl ?_ rfl t
  have ie : fBin ixD (fCall 2 F_stand_in (fCons (fVar 0) (fCons (fVar 4) fNil))) (fVar 3) [.im (bkD b), .im A, s2, .im (.int j), .im (.str x.1), .im (fr x.2)] = .ok (.int (stV b x.1 j)) := by
    rw [x_fBin, call_2 (a := bkD b) (b := .str x.1) rfl rfl rfl rfl e, bnd_ok]
    exact i
  rw [x_fTup, x_fCons, ie, fr_int]
  rfl
theorem wor_sum (b : Bk) (w : Str → Rat) (j : Nat) : sumR ((canon (nms b) w).map fun x => x.2 * (stV b x.1 j : Rat)) = wor b w j :=
  sumR_canon (nms b) w (fun x => x.2 * (stV b x.1 j : Rat)) fun n => by simp only []; grind
theorem F_worths {m k : Nat} {b : Bk} {w : Str → Rat} {A : D} (h : Bok m b) (hw : ∀ n ∈ nms b, Sm k (w n)) (hk : k ≤ 900) (hA : SeqOf A ((canon (nms b) w).map pr)) :
    F_worths_of [bkD b, A] = .ok (.tup ((List.range m).map fun j => fr (wor b w j))) := by
  have h6 := h.nlen
  have m4 := h.m4
  have h1 := h.l1
  have cl := canon_len (nms b) w
  obtain ⟨p0, b0, hb0⟩ : ∃ p0 b0, b = p0 :: b0 := by
    cases b with
    | nil => simp at h1
    | cons p0 b0 => exact ⟨p0, b0, rfl⟩
  have hp0 : p0 ∈ b := by rw [hb0]; exact List.mem_cons_self
  have i0 : ∀ r, ixD r (bkD b) (.int 0) = .ok (pD p0) := fun r => by rw [hb0]; simp [bkD]
  have rg : fRg rangeD1 (fCons (fCallB lenD (fConsB (fBin ixD (fBin ixD (fVar 0) (fK (.int 0))) (fK (.int 1))) fNil)) fNil) [.im (bkD b), .im A, .ol [], .un, .un, .un] = .ok ((List.range m).map fun (i : Nat) => D.int (i : Int)) := by
    have q := rangeD1_ok m (by omega)
    simp [i0]
    simp [pD, h.ln p0 hp0, q]
  have fo := forGo_fold (t := .nm 3) (fb := fApp 2 (fCall 1 F_summed (fCons (fL (fLc [4, 5] (.tp [(.nm 4), (.nm 5)]) (fIt true (fVar 1)) (fun _ => .ok true) (fCall 2 F_times (fCons (fVar 5) (fCons (fTup (fCons (fBin ixD (fCall 2 F_stand_in (fCons (fVar 0) (fCons (fVar 4) fNil))) (fVar 3)) (fCons (fK (.int 1)) fNil))) fNil))))) fNil))) (fun (i : Nat) => D.int (i : Int)) (fun s : List D × Sl => [.im (bkD b), .im A, .ol s.1, s.2, .un, .un])
    (fun s j => (s.1 ++ [fr (wor b w j)], .im (.int (j : Nat)))) (fun xs s => (∀ x ∈ xs, x < m) ∧ s.1.length + xs.length ≤ 100) (List.range m) ([], .un) ⟨fun x hx => List.mem_range.mp hx, by simp; omega⟩ (fun j xs s hP => by
      obtain ⟨p1, p2⟩ := hP
      have hj := p1 j List.mem_cons_self
      rw [List.length_cons] at p2
      refine ⟨⟨fun y hy => p1 y (List.mem_cons_of_mem _ hy), by simp; omega⟩, [.im (bkD b), .im A, .ol s.1, .im (.int (j : Nat)), .un, .un], by simp, .inl ?_⟩
      have l := lc_prod (s2 := .ol s.1) h hw hk hA hj
      have su := F_summed_ok (k := k + 10) (qs := (canon (nms b) w).map fun x => x.2 * (stV b x.1 j : Rat)) (fun q hq => by
        obtain ⟨x, hx, rfl⟩ := List.mem_map.mp hq
        exact (canon_sm hw x hx).mul (stV_sm h x.1 j)) (by
          rw [List.length_map]
          have := Nat.mul_le_mul (show k + 10 + 1 ≤ 911 by omega) (show (canon (nms b) w).length ≤ 6 by omega)
          omega)
      rw [wor_sum] at su
      have c := call_1 (fL_of l) rfl su
      have z : s.1.length < sizeLine := sz_lt' (by omega)
      rw [x_fApp]
      show ((fCall 1 F_summed _ _).bnd _) = _
      rw [c, bnd_ok]
      show (if decide (s.1.length < sizeLine) then R.ok (Fl.nx [.im (bkD b), .im A, .ol (s.1 ++ [fr (wor b w j)]), .im (.int (j : Nat)), .un, .un]) else .stuck) = _
      rw [if_pos (decide_eq_true z)])
  have q2 : ∀ (xs : List Nat) (s : List D × Sl), (xs.foldl (fun (s : List D × Sl) (j : Nat) => (s.1 ++ [fr (wor b w j)], Sl.im (.int (j : Nat)))) s).1 = s.1 ++ xs.map fun j => fr (wor b w j) := fun xs => by
    induction xs with
    | nil => intro s; simp
    | cons x xs ih => intro s; rw [List.foldl_cons, ih]; simp
  rw [q2] at fo
  refine run_rt (r0 := [.im (bkD b), .im A, .un, .un, .un, .un]) rfl ?_
  refine seq_go (r' := [.im (bkD b), .im A, .ol [], .un, .un, .un]) rfl ?_
  refine seq_go (for_go rg fo) ?_
  refine ret_of (d := .tup ((List.range m).map fun j => fr (wor b w j))) ?_ rfl
  rfl
def ind (n : Str) : Str → Rat := fun m => if m = n then 1 else 0
theorem wt_ind {N : List Str} (hN : N.Nodup) {n : Str} (hn : n ∈ N) : Wt N 1 (ind n) where
  pos := fun m _ => by unfold ind; split <;> decide
  sm := fun m _ => by unfold ind; split; exact sm_one; exact sm_zero
  sum := sumR_one hN hn fun _ => 1
theorem canon_ind {N : List Str} (hN : N.Nodup) {n : Str} (hn : n ∈ N) : canon N (ind n) = [(n, 1)] := by
  induction N with
  | nil => cases hn
  | cons m N ih =>
    obtain ⟨h1, h2⟩ := List.nodup_cons.mp hN
    unfold canon
    by_cases e : m = n
    · rw [List.filter_cons_of_pos (by simp [ind, e]), List.map_cons]
      have z : (N.filter fun n_1 => decide (ind n n_1 ≠ 0)) = [] := by
        rw [List.filter_eq_nil_iff]
        intro y hy q
        have : ¬ y = n := fun q2 => h1 (e ▸ q2 ▸ hy)
        simp [ind, this] at q
      rw [z]
      simp [ind, e]
    · rw [List.filter_cons_of_neg (by simp [ind, e])]
      exact ih h2 (by rcases List.mem_cons.mp hn with z | z; exact absurd z.symm e; exact z)
end PL
end
section
namespace PL
open PySem PySem.Spec PyProof.Rows L2 PL.G
theorem ndq (q : Rat) : (q.num : Rat) = q * ((q.den : Int) : Rat) := by
  have e := mul_divInt q (((q.den : Int)) : Rat)
  rw [Rat.num_intCast, Rat.den_intCast] at e
  rw [← e]
  have e2 : ((q.den : Int)) * ((1 : Nat) : Int) = 1 * (q.den : Int) := by omega
  rw [e2, Rat.divInt_mul_right (den_ne q)]
  have z := Rat.num_divInt_den (q.num : Rat)
  rw [Rat.num_intCast, Rat.den_intCast] at z
  exact z.symm
theorem divInt_is {u d : Int} {q : Rat} (hd : d ≠ 0) (h : (u : Rat) = q * (d : Rat)) : Rat.divInt u d = q := by
  have hd' : (d : Rat) ≠ 0 := by simpa using hd
  rw [Rat.divInt_eq_div, h, Rat.div_def, Rat.mul_assoc, Rat.mul_inv_cancel _ hd', Rat.mul_one]
theorem parted_is (x y : Rat) (hy : y ≠ 0) : Rat.divInt (x.num * y.den) (x.den * y.num) = x / y := by
  have hn : y.num ≠ 0 := fun z => hy (Rat.num_eq_zero.mp z)
  refine divInt_is (Int.mul_ne_zero (den_ne x) hn) ?_
  have ex := ndq x
  have ey := ndq y
  rw [Rat.intCast_mul, Rat.intCast_mul, ex, ey]
  have c := Rat.div_mul_cancel hy (a := x)
  grind
theorem div_sm {x y : Rat} {n m : Nat} (hx : Sm n x) (hy : Sm m y) (h0 : y ≠ 0) : Sm (n + m) (x / y) := by
  rw [← parted_is x y h0]
  have hn : y.num ≠ 0 := fun z => h0 (Rat.num_eq_zero.mp z)
  exact divInt_sm (Int.mul_ne_zero (den_ne x) hn) (mul_bits hx.1 (by simpa using hy.2)) (mul_bits (by simpa using hx.2) hy.1)
theorem F_parted_ok {x y : Rat} {n m : Nat} (hx : Sm n x) (hy : Sm m y) (h0 : y ≠ 0) (h : n + m ≤ 8990) : F_parted [fr x, fr y] = .ok (fr (x / y)) := by
  have hn : y.num ≠ 0 := fun z => h0 (Rat.num_eq_zero.mp z)
  have m1 : mulB x.num y.den = true := mulB_bits hx.1 (by simpa using hy.2) (by omega)
  have m2 : mulB x.den y.num = true := mulB_bits (by simpa using hx.2) hy.1 (by omega)
  have s := F_share_ok (u := x.num * y.den) (d := x.den * y.num) (n := n + m) (Int.mul_ne_zero (den_ne x) hn) (mul_bits (by simpa using hx.2) hy.1) h
  rw [parted_is x y h0] at s
  simp only [F_parted, x_runF, B_parted]
  simp [m1, m2, s]
def nthI (ps : List Int) (k : Nat) : Int := ps[k]?.getD 0
theorem SeqOf.ix {A : D} {ps : List Int} (h : SeqOf A (ps.map .int)) {k : Nat} (hk : k < ps.length) (r : Rho) : ixD r A (.int k) = .ok (.int (nthI ps k)) := by
  have e : (ps.map D.int)[k]? = some (.int (nthI ps k)) := by
    rw [List.getElem?_map]
    unfold nthI
    rw [List.getElem?_eq_getElem hk]; rfl
  rcases h with rfl | rfl
  · exact ix_lst e
  · exact ix_tup e
structure Pok (ps : List Int) : Prop where
  l1 : 1 ≤ ps.length
  l6 : ps.length ≤ 6
  rg : ∀ i ∈ ps, -99 ≤ i ∧ i ≤ 99
  up : ps.Pairwise (· < ·)
theorem nthI_mem {ps : List Int} {k : Nat} (h : k < ps.length) : nthI ps k ∈ ps := by
  unfold nthI
  rw [List.getElem?_eq_getElem h]
  exact List.getElem_mem h
theorem Pok.sm {ps : List Int} (h : Pok ps) {k : Nat} (hk : k < ps.length) : Sm 7 (nthI ps k : Rat) := by
  have := h.rg _ (nthI_mem hk)
  exact int_sm (by omega) (by decide)
theorem Pok.lt {ps : List Int} (h : Pok ps) {j k : Nat} (hj : j < k) (hk : k < ps.length) : nthI ps j < nthI ps k := by
  unfold nthI
  rw [List.getElem?_eq_getElem hk, List.getElem?_eq_getElem (Nat.lt_trans hj hk)]
  exact (List.pairwise_iff_getElem.mp h.up) j k _ _ hj
end PL
end
section
namespace PL
open PySem PySem.Spec PyProof.Rows L2 PL.G
abbrev Rw := List (Int × Str)
structure Rok (b : Bk) (rw : Rw) : Prop where
  pl : Pok (rw.map (·.1))
  nm : ∀ x ∈ rw, x.2 ∈ nms b
theorem Rok.l1 {b : Bk} {rw : Rw} (h : Rok b rw) : 1 ≤ rw.length := by simpa using h.pl.l1
theorem Rok.l6 {b : Bk} {rw : Rw} (h : Rok b rw) : rw.length ≤ 6 := by simpa using h.pl.l6
end PL
end
section
namespace PL
open PySem PySem.Spec PyProof.Rows L2 PL.G
inductive Tr where
  | leaf (n : Str)
  | node (k : Str) (a b : Tr)
def Kn (x : Str) : Prop := F_is_name [.str x] = .ok (.bl true) ∧ PyData.strOk x = true
def Tok (N : List Str) : Tr → Prop
  | .leaf n => n ∈ N
  | .node k a b => Kn k ∧ Tok N a ∧ Tok N b
structure Stg (sv : Kv) : Prop where
  up : sv.Pairwise fun x y => strLt x.1 y.1 = true
  kn : ∀ x ∈ sv, Kn x.1
  pt : ∀ x ∈ sv, 0 ≤ x.2 ∧ x.2 ≤ 1
  sm : ∀ x ∈ sv, Sm 7 x.2
  ln : sv.length ≤ 60
structure Ptk (p : Str → Rat) : Prop where
  lo : ∀ k, 0 ≤ p k
  hi : ∀ k, p k ≤ 1
  sm : ∀ k, Sm 7 (p k)
end PL
end
section
namespace PL
open PySem PySem.Spec PyProof.Rows L2 PL.G
theorem if_yes {g : Rho → R Bool} {s1 s2 : Rho → R Fl} {r : Rho} (h : g r = .ok true) : fIfS g s1 s2 r = s1 r := by
  rw [x_fIfS, h]; rfl
section
variable {m : Nat} {b : Bk} (h : Bok m b) {p : Str → Rat} {ks : List (Key × D)} (hk : ∀ k, ((valD ks (.inr k)).getD (fr 0)) = fr (p k))
include h hk
end
theorem seenT_mem : ∀ (xs ks : List Str) (x : Str), x ∈ seenT ks xs ↔ x ∈ ks ∨ x ∈ xs
  | [], ks, x => by simp [seenT]
  | y :: xs, ks, x => by
    show x ∈ seenT (if y ∈ ks then ks else y :: ks) xs ↔ _
    rw [seenT_mem xs]
    split
    · rename_i hy
      constructor
      · rintro (q | q)
        · exact .inl q
        · exact .inr (List.mem_cons_of_mem _ q)
      · rintro (q | q)
        · exact .inl q
        · rcases List.mem_cons.mp q with rfl | q
          · exact .inl hy
          · exact .inr q
    · constructor
      · rintro (q | q)
        · rcases List.mem_cons.mp q with rfl | q
          · exact .inr List.mem_cons_self
          · exact .inl q
        · exact .inr (List.mem_cons_of_mem _ q)
      · rintro (q | q)
        · exact .inl (List.mem_cons_of_mem _ q)
        · rcases List.mem_cons.mp q with rfl | q
          · exact .inl List.mem_cons_self
          · exact .inr q
end PL
end
section
namespace PL
open PySem PySem.Spec PyProof.Rows L2 PL.G
structure Part (ns : List Int) (Fp : List D → R D) (Q : Int → Rat) : Prop where
  ok : ∀ a, 0 ≤ a → Fp [.scr ns, .int a] = .ok (fr (Q a))
  lo : ∀ a, 0 ≤ a → 0 ≤ Q a
  hi : ∀ a, 0 ≤ a → Q a ≤ 1
  sm : ∀ a, 0 ≤ a → Sm 7 (Q a)
end PL
end
section
namespace PL
open PySem PySem.Spec PyProof.Rows L2 PL.G
theorem one_sub (p : Rat) : (1 - p).num = p.den - p.num ∧ (1 - p).den = p.den := by
  have e := sub_divInt 1 p
  have e1 : (1 : Rat).num * p.den - p.num * (1 : Rat).den = p.den - p.num := by
    show 1 * (p.den : Int) - p.num * 1 = _
    omega
  have e2 : (((1 : Rat).den : Nat) : Int) * (p.den : Int) = p.den := by
    show 1 * (p.den : Int) = _
    omega
  rw [e1, e2] at e
  have hp : (0 : Int) < p.den := by have := p.den_pos; omega
  have g : Int.gcd (p.den - p.num) p.den = 1 := by
    have d1 := Int.gcd_dvd_left (a := p.den - p.num) (b := p.den)
    have d2 := Int.gcd_dvd_right (a := p.den - p.num) (b := p.den)
    have d3 : ((Int.gcd (p.den - p.num) p.den : Nat) : Int) ∣ p.num := by
      have := Int.dvd_sub d2 d1
      have z : (p.den : Int) - (p.den - p.num) = p.num := by omega
      rw [z] at this
      exact this
    have d4 := Int.dvd_gcd d3 d2
    have r : Int.gcd p.num p.den = 1 := by
      have := p.reduced
      simpa [Int.gcd] using this
    rw [r] at d4
    exact Nat.dvd_one.mp d4
  rw [← e]
  refine ⟨?_, ?_⟩
  · rw [share_num hp, g]; simp
  · have := share_den (u := p.den - p.num) hp
    rw [g] at this
    have h2 : (((Rat.divInt (p.den - p.num) p.den).den : Nat) : Int) = p.den := by rw [this]; simp
    exact Int.ofNat.inj h2
def sst (s : Int × Int) (q : Rat) : Int × Int := (s.1 * q.den + q.num * s.2, s.2 * q.den)
theorem sst_fold (qs : List Rat) : ∀ (s : Int × Int) (S : Rat), 0 < s.2 → (s.1 : Rat) = S * (s.2 : Rat) → 0 < (qs.foldl sst s).2 ∧ ((qs.foldl sst s).1 : Rat) = (S + sumR qs) * ((qs.foldl sst s).2 : Rat) := by
  induction qs with
  | nil => intro s S h0 h; refine ⟨h0, ?_⟩; rw [sumR_nil, Rat.add_zero]; exact h
  | cons q qs ih =>
    intro s S h0 h
    have e := ndq q
    have i := ih (sst s q) (S + q) (Int.mul_pos h0 (by have := q.den_pos; omega)) (by
      show ((s.1 * q.den + q.num * s.2 : Int) : Rat) = (S + q) * ((s.2 * q.den : Int) : Rat)
      rw [Rat.intCast_add, Rat.intCast_mul, Rat.intCast_mul, Rat.intCast_mul, h, e]
      grind)
    refine ⟨i.1, ?_⟩
    rw [List.foldl_cons, i.2, sumR_cons]
    grind
theorem F_lawsum {k : Nat} {A : D} {qs : List Rat} (hA : SeqOf A (qs.map fr)) (hs : ∀ q ∈ qs, Sm k q) (hb : (k + 1) * qs.length ≤ 8000) : F_u_law_sum [A] = .ok (fr (sumR qs)) := by
  have fo := forGo_fold (t := .nm 1) (fb := fPar 2 3 (fCons (fBin addD (fBin mulD (fVar 2) (fBin ixD (fVar 1) (fK (.int 1)))) (fBin mulD (fBin ixD (fVar 1) (fK (.int 0))) (fVar 3))) (fCons (fBin mulD (fVar 3) (fBin ixD (fVar 1) (fK (.int 1)))) fNil))) fr (fun s : (Int × Int) × Sl => [.im A, s.2, .im (.int s.1.1), .im (.int s.1.2)]) (fun s q => (sst s.1 q, .im (fr q)))
    (fun xs s => (∀ q ∈ xs, Sm k q) ∧ ∃ c, s.1.1.natAbs < 2 ^ c ∧ s.1.2.natAbs < 2 ^ c ∧ c + (k + 1) * xs.length ≤ 8001) qs ((0, 1), .un) ⟨hs, 1, by simp, by simp, by omega⟩ (fun q xs s hP => by
      obtain ⟨p1, c, p2, p3, p4⟩ := hP
      rw [List.length_cons, Nat.mul_succ] at p4
      have hq := p1 q List.mem_cons_self
      have hd : ((q.den : Int)).natAbs < 2 ^ k := by simpa using hq.2
      have b1 := mul_bits p2 hd
      have b2 := mul_bits hq.1 p3
      have b3 := mul_bits p3 hd
      rw [Nat.add_comm k c] at b2
      have b4 := add_bits b1 b2
      have m1 : mulB s.1.1 q.den = true := mulB_bits p2 hd (by omega)
      have m2 : mulB q.num s.1.2 = true := mulB_bits hq.1 p3 (by omega)
      have m3 : mulB s.1.2 q.den = true := mulB_bits p3 hd (by omega)
      refine ⟨⟨fun x hx => p1 x (List.mem_cons_of_mem _ hx), c + k + 1, b4, Nat.lt_of_lt_of_le b3 (Nat.pow_le_pow_right (by decide) (by omega)), by omega⟩, [.im A, .im (fr q), .im (.int s.1.1), .im (.int s.1.2)], by simp, .inl ?_⟩
      simp [m1, m2, m3, sst])
  obtain ⟨s', hs'⟩ : ∃ s' : (Int × Int) × Sl, s' = qs.foldl (fun (s : (Int × Int) × Sl) q => (sst s.1 q, Sl.im (fr q))) ((0, 1), .un) := ⟨_, rfl⟩
  rw [← hs'] at fo
  have q2 : ∀ (xs : List Rat) (s : (Int × Int) × Sl), (xs.foldl (fun (s : (Int × Int) × Sl) q => (sst s.1 q, Sl.im (fr q))) s).1 = xs.foldl sst s.1 := fun xs => by
    induction xs with
    | nil => intro s; rfl
    | cons x xs ih => intro s; exact ih _
  have e1 : s'.1 = qs.foldl sst (0, 1) := by rw [hs', q2]
  obtain ⟨i1, i2⟩ := sst_fold qs (0, 1) 0 (by decide) (by simp)
  rw [← e1] at i1 i2
  have bits : ∀ (xs : List Rat) (c : Nat) (s : Int × Int), (∀ q ∈ xs, Sm k q) → s.2.natAbs < 2 ^ c → (xs.foldl sst s).2.natAbs < 2 ^ (c + k * xs.length) := fun xs => by
    induction xs with
    | nil => intro c s _ h; simpa using h
    | cons q xs ih =>
      intro c s hq h
      have hd : ((q.den : Int)).natAbs < 2 ^ k := by simpa using (hq q List.mem_cons_self).2
      have := ih (c + k) (sst s q) (fun x hx => hq x (List.mem_cons_of_mem _ hx)) (mul_bits h hd)
      rw [List.length_cons, Nat.mul_succ]
      have e : c + (k * xs.length + k) = c + k + k * xs.length := by omega
      rw [e]
      exact this
  have b2 := bits qs 1 (0, 1) hs (by decide)
  rw [← e1] at b2
  have lo := F_low_ok (u := s'.1.1) (d := s'.1.2) (n := 1 + k * qs.length) (by omega) b2 (by rw [Nat.succ_mul] at hb; omega)
  rw [divInt_is (q := sumR qs) (by omega) (by rw [i2]; grind)] at lo
  refine run_rt (r0 := [.im A, .un, .un, .un]) rfl ?_
  refine seq_go (r' := [.im A, .un, .im (.int 0), .im (.int 1)]) rfl ?_
  refine seq_go (for_go (ds := qs.map fr) (hA.items false _) fo) ?_
  exact ret_of (call_2 (a := .int s'.1.1) (b := .int s'.1.2) rfl rfl rfl rfl lo) rfl
theorem seenT_nodup : ∀ (xs ks : List Str), ks.Nodup → (seenT ks xs).Nodup
  | [], _, h => h
  | x :: xs, ks, h => by
    show (seenT (if x ∈ ks then ks else x :: ks) xs).Nodup
    refine seenT_nodup xs _ ?_
    split
    · exact h
    · rename_i q
      exact List.nodup_cons.mpr ⟨q, h⟩
theorem wSum_filter (ps : Kv) (n : Str) : sumR ((ps.filter fun x => decide (x.1 = n)).map (·.2)) = wSum ps n := by
  rw [wSum_eq]
  induction ps with
  | nil => rfl
  | cons x ps ih =>
    rw [List.map_cons, sumR_cons]
    by_cases e : x.1 = n
    · rw [List.filter_cons_of_pos (by simp [e]), List.map_cons, sumR_cons, ih, if_pos e]
    · rw [List.filter_cons_of_neg (by simp [e]), ih, if_neg e]
      grind
theorem F_lawgathered {N : List Str} {ps : Kv} {k : Nat} (hN : Up N) (hN2 : ∀ n ∈ N, PyData.strOk n = true) (hp : ∀ x ∈ ps, x.1 ∈ N ∧ Sm k x.2) (hl : ps.length ≤ 60) (hb : (k + 1) * ps.length ≤ 7000) : F_u_law_gathered [.lst (ps.map pr)] = .ok (.lst ((canon N (wSum ps)).map pr)) := by
  have l1 : fLc [4, 5] (.tp [(.nm 4), (.nm 5)]) (fIt true (fVar 0)) (fun _ => .ok true) (fVar 4) [.im (.lst (ps.map pr)), .ol [], .un, .un, .un, .un] = .ok ((ps.map (·.1)).map .str) := by
    refine fLc_ok (X := ps.map pr) rfl (by simp; omega) ?_
    have key : ∀ x ∈ ps, ∃ r2, setT (.tp [(.nm 4), (.nm 5)]) (pr x) [.im (.lst (ps.map pr)), .ol [], .un, .un, .un, .un] = .ok r2 ∧ fVar 4 r2 = .ok (.str x.1) ∧ noOwn (.str x.1) = true := fun x _ => ⟨[.im (.lst (ps.map pr)), .ol [], .un, .un, .im (.str x.1), .im (fr x.2)], rfl, rfl, rfl⟩
    have q := lcGo_all pr (fun x => D.str x.1) ps key
    refine q.trans ?_
    rw [List.map_map]
    rfl
  obtain ⟨ks, hks⟩ : ∃ ks, ks = srtT (seenT [] (ps.map (·.1))) := ⟨_, rfl⟩
  have ss : fL (fSortSet (fL (fLc [4, 5] (.tp [(.nm 4), (.nm 5)]) (fIt true (fVar 0)) (fun _ => .ok true) (fVar 4)))) [.im (.lst (ps.map pr)), .ol [], .un, .un, .un, .un] = .ok (.lst (ks.map .str)) := by
    refine fL_of ?_
    unfold fSortSet
    rw [fL_of l1, bnd_ok]
    show (match strsOf ((ps.map (·.1)).map D.str) with
      | some xs => if decide (xs.length < 64) then R.ok ((srtT (seenT [] xs)).map D.str) else .stuck
      | none => .stuck) = _
    rw [strsOf_map]
    dsimp only
    rw [if_pos (decide_eq_true (by rw [List.length_map]; omega)), hks]
  have kmem : ∀ n, n ∈ ks ↔ n ∈ ps.map (·.1) := fun n => by
    rw [hks, (srtT_perm _).mem_iff, seenT_mem]
    simp
  have knd : (seenT [] (ps.map (·.1))).Nodup := seenT_nodup _ _ List.nodup_nil
  have klen : ks.length ≤ ps.length := by
    rw [hks, (srtT_perm _).length_eq]
    have := seenT_len (ps.map (·.1)) []
    simpa using this
  have fo := forGo_fold (t := .nm 2) (fb := (fSeq (fAsg (.nm 3) (fCall 1 F_u_law_sum (fCons (fL (fLc [4, 5] (.tp [(.nm 4), (.nm 5)]) (fIt true (fVar 0)) (fTest (fBin eqD (fVar 4) (fVar 2))) (fVar 5))) fNil)))
    (fExt 1 (fIf (fTest (fBin neD (fVar 3) (fTup (fCons (fK (.int 0)) (fCons (fK (.int 1)) fNil))))) (fL (fLst (fCons (fTup (fCons (fVar 2) (fCons (fVar 3) fNil))) fNil))) (fL (fLst fNil)))))) D.str (fun s : List D × Sl × Sl => [.im (.lst (ps.map pr)), .ol s.1, s.2.1, s.2.2, .un, .un])
    (fun s n => (s.1 ++ (if decide (wSum ps n ≠ 0) then [pr (n, wSum ps n)] else []), .im (.str n), .im (fr (wSum ps n)))) (fun xs s => (∀ n ∈ xs, n ∈ ks) ∧ s.1.length + xs.length ≤ 100) ks ([], .un, .un) ⟨fun n hn => hn, by simp; omega⟩ (fun n xs s hP => by
      obtain ⟨p1, p2⟩ := hP
      have hn := p1 n List.mem_cons_self
      rw [List.length_cons] at p2
      have nN : n ∈ N := by
        obtain ⟨x, hx, rfl⟩ := List.mem_map.mp ((kmem n).mp hn)
        exact (hp x hx).1
      refine ⟨⟨fun y hy => p1 y (List.mem_cons_of_mem _ hy), by
        have : (if decide (wSum ps n ≠ 0) then [pr (n, wSum ps n)] else []).length ≤ 1 := by split <;> simp
        simp only [List.length_append]
        omega⟩, [.im (.lst (ps.map pr)), .ol s.1, .im (.str n), s.2.2, .un, .un], by simp, .inl ?_⟩
      have lf : fLc [4, 5] (.tp [(.nm 4), (.nm 5)]) (fIt true (fVar 0)) (fTest (fBin eqD (fVar 4) (fVar 2))) (fVar 5) [.im (.lst (ps.map pr)), .ol s.1, .im (.str n), s.2.2, .un, .un] = .ok (((ps.filter fun x => decide (x.1 = n)).map (·.2)).map fr) := by
        refine fLc_ok (X := ps.map pr) rfl (by simp; omega) ?_
        have key : ∀ x ∈ ps, ∃ r2, setT (.tp [(.nm 4), (.nm 5)]) (pr x) [.im (.lst (ps.map pr)), .ol s.1, .im (.str n), s.2.2, .un, .un] = .ok r2 ∧ fTest (fBin eqD (fVar 4) (fVar 2)) r2 = .ok (decide (x.1 = n)) ∧ (decide (x.1 = n) = true → fVar 5 r2 = .ok (fr x.2) ∧ noOwn (fr x.2) = true) := fun x hx => by
          refine ⟨[.im (.lst (ps.map pr)), .ol s.1, .im (.str n), s.2.2, .im (.str x.1), .im (fr x.2)], rfl, ?_, fun _ => ⟨rfl, rfl⟩⟩
          have e := eqD_str (r := [.im (.lst (ps.map pr)), .ol s.1, .im (.str n), s.2.2, .im (.str x.1), .im (fr x.2)]) (hN2 x.1 (hp x hx).1) (hN2 n nN)
          have e2 : (x.1 == n) = decide (x.1 = n) := by by_cases z : x.1 = n <;> simp [z]
          rw [e2] at e
          rw [x_fTest, x_fBin, x_fVar, x_fVar]
          show ((eqD _ (.str x.1) (.str n)).bnd boolOf) = _
          rw [e]
          rfl
        have q := lcGo_typed pr (fun x => decide (x.1 = n)) (fun x => fr x.2) ps key
        refine q.trans ?_
        rw [List.map_map]
        rfl
      have su := F_lawsum (A := .lst (((ps.filter fun x => decide (x.1 = n)).map (·.2)).map fr)) (k := k) (.inl rfl) (fun q hq => by
        obtain ⟨x, hx, rfl⟩ := List.mem_map.mp hq
        exact (hp x (List.mem_filter.mp hx).1).2) (by
          rw [List.length_map]
          have := Nat.mul_le_mul_left (k + 1) (List.length_filter_le (fun x : Str × Rat => decide (x.1 = n)) ps)
          omega)
      rw [wSum_filter] at su
      refine seq_go (r' := [.im (.lst (ps.map pr)), .ol s.1, .im (.str n), .im (fr (wSum ps n)), .un, .un]) (asg_to (call_1 (fL_of lf) rfl su) rfl (by simp) rfl) ?_
      have tst : fTest (fBin neD (fVar 3) (fTup (fCons (fK (.int 0)) (fCons (fK (.int 1)) fNil)))) [.im (.lst (ps.map pr)), .ol s.1, .im (.str n), .im (fr (wSum ps n)), .un, .un] = .ok (decide (wSum ps n ≠ 0)) := by
        rw [x_fTest, x_fBin, x_fVar]
        show ((neD _ (fr (wSum ps n)) (fr 0)).bnd boolOf) = _
        rw [neD_fr]
        simp
      have z1 : s.1.length + 1 ≤ sizeLine := sz_le (by omega)
      rw [x_fExt]
      show ((fIf _ _ _ _).bnd _) = _
      rw [x_fIf, tst, bnd_ok]
      by_cases e : wSum ps n ≠ 0
      · rw [decide_eq_true e]
        show (if decide (s.1.length + 1 ≤ sizeLine) then R.ok (Fl.nx [.im (.lst (ps.map pr)), .ol (s.1 ++ [pr (n, wSum ps n)]), .im (.str n), .im (fr (wSum ps n)), .un, .un]) else .stuck) = _
        rw [if_pos (decide_eq_true z1)]
        rfl
      · rw [decide_eq_false e]
        show (if decide (s.1.length + 0 ≤ sizeLine) then R.ok (Fl.nx [.im (.lst (ps.map pr)), .ol (s.1 ++ []), .im (.str n), .im (fr (wSum ps n)), .un, .un]) else .stuck) = _
        rw [if_pos (decide_eq_true (by omega))]
        rfl)
  have q2 : ∀ (xs : List Str) (s : List D × Sl × Sl), (xs.foldl (fun (s : List D × Sl × Sl) n => (s.1 ++ (if decide (wSum ps n ≠ 0) then [pr (n, wSum ps n)] else []), Sl.im (.str n), Sl.im (fr (wSum ps n)))) s).1 = s.1 ++ (xs.filter fun n => decide (wSum ps n ≠ 0)).map fun n => pr (n, wSum ps n) := fun xs => by
    induction xs with
    | nil => intro s; simp
    | cons x xs ih =>
      intro s
      rw [List.foldl_cons, ih]
      by_cases e : wSum ps x ≠ 0
      · rw [List.filter_cons_of_pos (by simp [e])]
        simp [e]
      · rw [List.filter_cons_of_neg (by simp at e; simp [e])]
        simp at e
        simp [e]
  rw [q2, hks, filter_eq hN knd (fun x hx => by
    rcases (seenT_mem _ _ _).mp hx with q | q
    · cases q
    · obtain ⟨y, hy, rfl⟩ := List.mem_map.mp q
      exact (hp y hy).1) (fun x hx hpx => by
        refine (seenT_mem _ _ _).mpr (.inr ?_)
        rcases Classical.em (x ∈ ps.map (·.1)) with c | c
        · exact c
        · exfalso
          have z : wSum ps x = 0 := by
            rw [wSum_eq]
            exact sumR_zero ps _ fun y hy => if_neg fun q : y.1 = x => c (q ▸ List.mem_map.mpr ⟨y, hy, rfl⟩)
          simp [z] at hpx)] at fo
  refine run_rt (r0 := [.im (.lst (ps.map pr)), .un, .un, .un, .un, .un]) rfl ?_
  refine seq_go (r' := [.im (.lst (ps.map pr)), .ol [], .un, .un, .un, .un]) rfl ?_
  refine seq_go (for_go (ds := ks.map .str) (by rw [x_fIt, ss]; rfl) (by rw [hks]; exact fo)) ?_
  have e3 : (canon N (wSum ps)).map pr = (N.filter fun n => decide (wSum ps n ≠ 0)).map fun n => pr (n, wSum ps n) := by
    unfold canon
    rw [List.map_map]
    rfl
  rw [e3]
  rfl
theorem lc_scaledL {l c : Nat} {r : Rho} {A : D} {ps : Kv} {p : Rat} {k k2 : Nat} (hr : r.length = 7) (hl7 : l < 5) (hc7 : c < 5) (hA : SeqOf A (ps.map pr)) (hl : ps.length ≤ 1000) (hc : r[c]? = some (.im (fr p))) (ha : r[l]? = some (.im A)) (hs : ∀ x ∈ ps, Sm k x.2) (hp : Sm k2 p) (hk : k + k2 ≤ 8000) :
    fLc [5, 6] (.tp [(.nm 5), (.nm 6)]) (fIt true (fVar l)) (fun _ => .ok true) (fTup (fCons (fVar 5) (fCons (fCall 2 F_u_law_low (fCons (fBin mulD (fBin ixD (fVar 6) (fK (.int 0))) (fBin ixD (fVar c) (fK (.int 0)))) (fCons (fBin mulD (fBin ixD (fVar 6) (fK (.int 1))) (fBin ixD (fVar c) (fK (.int 1)))) fNil))) fNil))) r = .ok ((ps.map fun x => (x.1, x.2 * p)).map pr) := by
  refine fLc_ok (X := ps.map pr) (by rw [x_fIt, x_fVar, ha]; exact hA.items true _) (by simp; omega) ?_
  have key : ∀ x ∈ ps, ∃ r2, setT (.tp [(.nm 5), (.nm 6)]) (pr x) (wipeR r [5, 6]) = .ok r2 ∧ fTup (fCons (fVar 5) (fCons (fCall 2 F_u_law_low (fCons (fBin mulD (fBin ixD (fVar 6) (fK (.int 0))) (fBin ixD (fVar c) (fK (.int 0)))) (fCons (fBin mulD (fBin ixD (fVar 6) (fK (.int 1))) (fBin ixD (fVar c) (fK (.int 1)))) fNil))) fNil)) r2 = .ok (pr (x.1, x.2 * p)) ∧ noOwn (pr (x.1, x.2 * p)) = true := fun x hx => by
    refine ⟨((wipeR r [5, 6]).set 5 (.im (.str x.1))).set 6 (.im (fr x.2)), by simp [pr, hr], ?_, rfl⟩
    have sx := hs x hx
    have dx : ((x.2.den : Int)).natAbs < 2 ^ k := by simpa using sx.2
    have dp : ((p.den : Int)).natAbs < 2 ^ k2 := by simpa using hp.2
    have m1 : mulB x.2.num p.num = true := mulB_bits sx.1 hp.1 (by omega)
    have m2 : mulB x.2.den p.den = true := mulB_bits dx dp (by omega)
    have lo := F_low_ok (u := x.2.num * p.num) (d := x.2.den * p.den) (n := k + k2) (den_mul_ne x.2 p) (mul_bits dx dp) (by omega)
    rw [mul_divInt] at lo
    have g1 : (((wipeR r [5, 6]).set 5 (.im (.str x.1))).set 6 (.im (fr x.2)))[5]? = some (.im (.str x.1)) := by
      rw [List.getElem?_set_ne (by decide), List.getElem?_set_self (by simp [hr])]
    have g2 : (((wipeR r [5, 6]).set 5 (.im (.str x.1))).set 6 (.im (fr x.2)))[6]? = some (.im (fr x.2)) := by
      rw [List.getElem?_set_self (by simp [hr])]
    have g3 : (((wipeR r [5, 6]).set 5 (.im (.str x.1))).set 6 (.im (fr x.2)))[c]? = some (.im (fr p)) := by
      rw [List.getElem?_set_ne (by omega), List.getElem?_set_ne (by omega)]
      simp only [x_wipeR_cons, x_wipeR_nil]
      rw [List.getElem?_set_ne (by omega), List.getElem?_set_ne (by omega)]
      exact hc
    have cc := call_2 (F := F_u_law_low) (r := ((wipeR r [5, 6]).set 5 (.im (.str x.1))).set 6 (.im (fr x.2))) (fa := fBin mulD (fBin ixD (fVar 6) (fK (.int 0))) (fBin ixD (fVar c) (fK (.int 0)))) (fb := fBin mulD (fBin ixD (fVar 6) (fK (.int 1))) (fBin ixD (fVar c) (fK (.int 1)))) (a := .int (x.2.num * p.num)) (b := .int (x.2.den * p.den)) (by
      rw [x_fBin, x_fBin, x_fBin, x_fVar, x_fVar, g2, g3]
      simp [m1]) rfl (by
      rw [x_fBin, x_fBin, x_fBin, x_fVar, x_fVar, g2, g3]
      simp [m2]) rfl lo
    rw [x_fTup, x_fCons, x_fVar, g1, x_fCons, cc]
    simp [pr]
  refine (lcGo_all pr (fun x => pr (x.1, x.2 * p)) ps key).trans ?_
  rw [List.map_map]
  rfl
theorem F_lawled {N : List Str} {k k2 : Nat} {w v : Str → Rat} {p : Rat} {A B : D} (hN : Up N) (hN2 : ∀ n ∈ N, PyData.strOk n = true) (hl : N.length ≤ 30) (hw : ∀ n ∈ N, Sm k (w n)) (hv : ∀ n ∈ N, Sm k (v n)) (hp : Sm k2 p) (hA : SeqOf A ((canon N w).map pr)) (hB : SeqOf B ((canon N v).map pr)) (hk : (k + k2 + 3) * (N.length + N.length) ≤ 7000) (hk' : k + k2 ≤ 7000) :
    F_u_law_led [A, B, fr p] = .ok (.lst ((canon N (mixW w v p)).map pr)) := by
  have cl1 := canon_len N w
  have cl2 := canon_len N v
  obtain ⟨o1, o2⟩ := one_sub p
  have sr := sm_one.sub hp
  have l1 := lc_scaledL (l := 0) (c := 3) (r := [.im A, .im B, .im (fr p), .im (fr (1 - p)), .un, .un, .un]) rfl (by decide) (by decide) hA (by omega) rfl rfl (canon_sm hw) sr (by omega)
  have l2 := lc_scaledL (l := 1) (c := 2) (r := [.im A, .im B, .im (fr p), .im (fr (1 - p)), .im (.lst (((canon N w).map fun x => (x.1, x.2 * (1 - p))).map pr)), .un, .un]) rfl (by decide) (by decide) hB (by omega) rfl rfl (canon_sm hv) hp (by omega)
  have g := F_lawgathered (N := N) (ps := ((canon N w).map fun x => (x.1, x.2 * (1 - p))) ++ ((canon N v).map fun x => (x.1, x.2 * p))) (k := k + (1 + k2 + 1)) hN hN2 (fun x hx => by
    rcases List.mem_append.mp hx with hx | hx
    · obtain ⟨y, hy, rfl⟩ := List.mem_map.mp hx
      exact ⟨(canon_mem.mp hy).1, (canon_sm hw y hy).mul sr⟩
    · obtain ⟨y, hy, rfl⟩ := List.mem_map.mp hx
      exact ⟨(canon_mem.mp hy).1, ((canon_sm hv y hy).mul hp).mono (by omega)⟩) (by simp; omega) (by
        rw [List.length_append, List.length_map, List.length_map]
        have := Nat.mul_le_mul_left (k + k2 + 3) (Nat.add_le_add cl1 cl2)
        have e : k + (1 + k2 + 1) + 1 = k + k2 + 3 := by omega
        rw [e]
        omega)
  rw [canon_congr (w := wSum (((canon N w).map fun x => (x.1, x.2 * (1 - p))) ++ ((canon N v).map fun x => (x.1, x.2 * p)))) (v := mixW w v p) (fun n hn => by rw [wSum_append, wSum_scaled hN.nodup _ _ hn, wSum_scaled hN.nodup _ _ hn]; rfl)] at g
  refine run_rt (r0 := [.im A, .im B, .im (fr p), .un, .un, .un, .un]) rfl ?_
  refine seq_go (r' := [.im A, .im B, .im (fr p), .im (fr (1 - p)), .un, .un, .un]) (asg_to (d := fr (1 - p)) (by
    unfold fr
    rw [o1, o2]
    rfl) rfl (by simp) rfl) ?_
  refine seq_go (r' := [.im A, .im B, .im (fr p), .im (fr (1 - p)), .im (.lst (((canon N w).map fun x => (x.1, x.2 * (1 - p))).map pr)), .un, .un]) (asg_to (fL_of l1) rfl (by simp) rfl) ?_
  refine ret_of (call_1 (a := .lst ((((canon N w).map fun x => (x.1, x.2 * (1 - p))) ++ ((canon N v).map fun x => (x.1, x.2 * p))).map pr)) ?_ rfl g) rfl
  rw [x_fBin]
  show ((fL _ _).bnd fun y => addD _ _ y) = _
  refine (congrArg (fun z => R.bnd z _) (fL_of l2)).trans ?_
  rw [bnd_ok, x_addD_lst, if_pos (decide_eq_true (sz_le (by simp; omega))), List.map_append]
end PL
end
section
namespace PL
open PySem PySem.Spec PyProof.Rows L2 PL.G
theorem runR_rt {s1 : Rho → R Fl} {n : Nat} {os : List Ob} {ds : List D} {r0 : Rho} {d : D} (h0 : ds.map .im ++ List.replicate (n - ds.length) .un ++ [.st false os] = r0) (h : s1 r0 = .ok (.rt d)) : runR s1 n os ds = .ok d := by
  unfold runR; rw [h0, h]
theorem runO_rt {s1 : Rho → R Fl} {n : Nat} {ds : List D} {r0 : Rho} {d : D} (h0 : ds.map .im ++ List.replicate (n - ds.length) .un ++ [.st true []] = r0) (h : s1 r0 = .ok (.rt d)) : runO s1 n ds = .ok d := by
  unfold runO; rw [h0, h]
theorem runM_nx {s1 : Rho → R Fl} {n : Nat} {os os' : List Ob} {ds : List D} {r0 r' : Rho} (h0 : ds.map .im ++ List.replicate (n - ds.length) .un ++ [.st false os] = r0) (h : s1 r0 = .ok (.nx r')) (hs : hasSt r' = true) (ho : stOf r' = os') : runM s1 n os ds = .ok (.non, os') := by
  unfold runM; rw [h0, h]; simp only [hs, ho, if_true]
theorem runM_rm {s1 : Rho → R Fl} {n : Nat} {os os' : List Ob} {ds : List D} {r0 : Rho} {d : D} (h0 : ds.map .im ++ List.replicate (n - ds.length) .un ++ [.st false os] = r0) (h : s1 r0 = .ok (.rm d os')) : runM s1 n os ds = .ok (d, os') := by
  unfold runM; rw [h0, h]
theorem runM_err {s1 : Rho → R Fl} {n : Nat} {os : List Ob} {ds : List D} {r0 : Rho} {c : Str} (h0 : ds.map .im ++ List.replicate (n - ds.length) .un ++ [.st false os] = r0) (h : s1 r0 = .err c) : runM s1 n os ds = .err c := by
  unfold runM; rw [h0, h]
theorem flds_is {c : Str} {r : Rho} {k : Nat} {fs : List (Str × D)} (h : (stOf r)[k]? = some (.ins c fs)) : flds c r (.obj k) = some (k, fs) := by
  simp [flds, h]
theorem fFld_ok {c f : Str} {fa : Rho → R D} {r : Rho} {k : Nat} {fs : List (Str × D)} {x : D} (h1 : fa r = .ok (.obj k)) (h2 : (stOf r)[k]? = some (.ins c fs)) (h3 : fs.lookup f = some x) : fFld c f fa r = .ok x := by
  unfold fFld; rw [h1, bnd_ok, flds_is h2]; simp only [h3]
theorem fMethR_ok {c m : Str} {n : Nat} {F : List Ob → List D → R D} {fo : Rho → R D} {fs : Rho → R (List D)} {r : Rho} {k : Nat} {fl : List (Str × D)} {ds : List D} {x : R D} (h1 : fo r = .ok (.obj k)) (h2 : (stOf r)[k]? = some (.ins c fl)) (h3 : fl.lookup m = none) (h4 : fs r = .ok ds) (h5 : ds.length + 1 = n) (hs : hasSt r = true) (h : F (stOf r) (.obj k :: ds) = x) :
    fMethR c m n F fo fs r = x := by
  unfold fMethR; rw [h1, bnd_ok, flds_is h2]; simp only [h3]; rw [h4, bnd_ok, hs, Bool.and_true, if_pos (by simp [h5]), h]
theorem fMethM_ok {c m : Str} {n : Nat} {F : List Ob → List D → R (D × List Ob)} {fo : Rho → R D} {fs : Rho → R (List D)} {r : Rho} {k : Nat} {fl : List (Str × D)} {ds : List D} {x : R (D × List Ob)} (h1 : fo r = .ok (.obj k)) (h2 : (stOf r)[k]? = some (.ins c fl)) (h3 : fl.lookup m = none) (h4 : fs r = .ok ds) (h5 : ds.length + 1 = n) (h : F (stOf r) (.obj k :: ds) = x) :
    fMethM c m n F fo fs r = x := by
  unfold fMethM; rw [h1, bnd_ok, flds_is h2]; simp only [h3]; rw [h4, bnd_ok, if_pos (by simp [h5]), h]
theorem fSetF_ok {c fl : Str} {fo fe : Rho → R D} {r : Rho} {k : Nat} {fs : List (Str × D)} {d : D} (hw : wSt r = true) (h1 : fe r = .ok d) (hd : obD d = .ok d) (h2 : fo r = .ok (.obj k)) (h3 : (stOf r)[k]? = some (.ins c fs)) (hl : fs.length < 900) : fSetF c fl fo fe r = .ok (.nx (setSt r ((stOf r).set k (.ins c (putFD fl d fs))))) := by
  unfold fSetF; rw [hw, if_pos rfl, h1, bnd_ok, hd, bnd_ok, h2, bnd_ok, flds_is h3]; simp [hl]
theorem fMake_ok {c : Str} {n : Nat} {F : List Ob → List D → R (D × List Ob)} {fs : Rho → R (List D)} {r : Rho} {ds : List D} {os' : List Ob} (h1 : fs r = .ok ds) (h2 : ds.length + 1 = n) (h : F (stOf r ++ [.ins c []]) (.obj (stOf r).length :: ds) = .ok (.non, os')) : fMake c n F fs r = .ok (.obj (stOf r).length, os') := by
  unfold fMake; rw [h1, bnd_ok, if_pos (by simp [h2]), h]; rfl
theorem consA_ok {f : Rho → R D} {fs : Rho → R (List D)} {r : Rho} {d : D} {ds : List D} (h1 : f r = .ok d) (i : obD d = .ok d) (h2 : fs r = .ok ds) : fConsA f fs r = .ok (d :: ds) := by
  unfold fConsA; rw [h1, bnd_ok, i, bnd_ok, h2]; rfl
theorem seqM_go {s1 s2 : Rho → R Fl} {r r' : Rho} {x : R Fl} (h : s1 r = .ok (.nx r')) (hs : hasSt r' = true) (hl : (stOf r').length ≤ (stOf r).length) (h2 : s2 r' = x) : fSeqM s1 s2 r = x := by
  unfold fSeqM; rw [h, bnd_ok]; simp [hs, hl, h2]
theorem seqM_err {s1 s2 : Rho → R Fl} {r : Rho} {c : Str} (h : s1 r = .err c) : fSeqM s1 s2 r = .err c := by
  unfold fSeqM; rw [h]; rfl
theorem sw_nx {g : Rho → R Fl} {r r' : Rho} (hs : hasSt r = true) (h : g (setSt r (stOf r)) = .ok (.nx r')) : fSw g r = .ok (.nx r') := by
  unfold fSw; rw [hs, if_pos rfl, h]
theorem sw_rm {g : Rho → R Fl} {r : Rho} {d : D} {os : List Ob} (hs : hasSt r = true) (h : g (setSt r (stOf r)) = .ok (.rm d os)) : fSw g r = .ok (.rm d os) := by
  unfold fSw; rw [hs, if_pos rfl, h]
abbrev cM : Str := Str.ofString "Mover"
structure Mv where
  now : Rat
  w : Str → Rat
  e : Str
  begun : Rat
  long : Rat
  soft : Bool
def wayS (s : Bool) : Str := if s then Str.ofString "soft" else Str.ofString "even"
noncomputable def shW (b : Bk) (w : Str → Rat) : D := .lst ((canon (nms b) w).map pr)
noncomputable def mvF (b : Bk) (m : Mv) : List (Str × D) := [(Str.ofString "known", bkD b), (Str.ofString "now", fr m.now), (Str.ofString "start", shW b m.w), (Str.ofString "end", .str m.e), (Str.ofString "begun", fr m.begun), (Str.ofString "long", fr m.long), (Str.ofString "way", .str (wayS m.soft))]
noncomputable def mvO (b : Bk) (m : Mv) : Ob := .ins cM (mvF b m)
noncomputable def Mv.part (m : Mv) : Rat := if m.now - m.begun < m.long then (m.now - m.begun) / m.long else 1
noncomputable def ease (s : Bool) (p : Rat) : Rat := if s then p * p * (3 - (p + p)) else p
noncomputable def Mv.cur (m : Mv) : Str → Rat := mixW m.w (ind m.e) (ease m.soft m.part)
noncomputable def Mv.left (m : Mv) : Rat := if 0 < m.begun + m.long - m.now then m.begun + m.long - m.now else 0
noncomputable def Mv.call (m : Mv) (n : Str) (l : Rat) (s : Bool) : Mv := ⟨m.now, m.cur, n, m.now, l, s⟩
noncomputable def Mv.go (m : Mv) (t : Rat) : Mv := { m with now := m.now + t }
def mv0 (n : Str) : Mv := ⟨0, ind n, n, 0, 0, false⟩
section
variable {B : D} {b : Bk} {m : Mv} {d : D}
theorem lk_known : (mvF b m).lookup (Str.ofString "known") = some (bkD b) := by kernel_rfl
theorem lk_now : (mvF b m).lookup (Str.ofString "now") = some (fr m.now) := by kernel_rfl
theorem lk_start : (mvF b m).lookup (Str.ofString "start") = some (shW b m.w) := by kernel_rfl
theorem lk_end : (mvF b m).lookup (Str.ofString "end") = some (.str m.e) := by kernel_rfl
theorem lk_begun : (mvF b m).lookup (Str.ofString "begun") = some (fr m.begun) := by kernel_rfl
theorem lk_long : (mvF b m).lookup (Str.ofString "long") = some (fr m.long) := by kernel_rfl
theorem lk_way : (mvF b m).lookup (Str.ofString "way") = some (.str (wayS m.soft)) := by kernel_rfl
theorem lk_m {x : Str} (h : x ∈ ([Str.ofString "part", Str.ofString "call", Str.ofString "go_on", Str.ofString "time", Str.ofString "shares", Str.ofString "worths", Str.ofString "goal", Str.ofString "left"] : List Str)) : (mvF b m).lookup x = none := by
  simp only [List.mem_cons, List.not_mem_nil, or_false] at h
  rcases h with rfl | rfl | rfl | rfl | rfl | rfl | rfl | rfl <;> kernel_rfl
theorem pt_now (t : Rat) : putFD (Str.ofString "now") (fr t) (mvF b m) = mvF b { m with now := t } := by kernel_rfl
theorem pt_start (w : Str → Rat) : putFD (Str.ofString "start") (shW b w) (mvF b m) = mvF b { m with w := w } := by kernel_rfl
theorem pt_end (n : Str) : putFD (Str.ofString "end") (.str n) (mvF b m) = mvF b { m with e := n } := by kernel_rfl
theorem pt_begun (t : Rat) : putFD (Str.ofString "begun") (fr t) (mvF b m) = mvF b { m with begun := t } := by kernel_rfl
theorem pt_long (t : Rat) : putFD (Str.ofString "long") (fr t) (mvF b m) = mvF b { m with long := t } := by kernel_rfl
theorem pt_way (s : Bool) : putFD (Str.ofString "way") (.str (wayS s)) (mvF b m) = mvF b { m with soft := s } := by kernel_rfl
theorem mvF_len : (mvF b m).length = 7 := rfl
end
end PL
end
section
namespace PL
open PySem PySem.Spec PyProof.Rows L2
def fIfM (fc : Rho → R Bool) (f1 f2 : Rho → R (D × List Ob)) (r : Rho) : R (D × List Ob) := (fc r).bnd fun b => if b then f1 r else f2 r
section
variable {X : Cx} {E : WX} {a b c e : Expr} {f g : Rho → R (D × List Ob)} {ga : Rho → R Bool} {pos pos' : Pos}
theorem evm_if (hc : ET X E c ga) (ha : EVM X E a f) (hb : EVM X E b g) : EVM X E (.IfExp c a b pos) (fIfM ga f g) :=
  pe_imp (pe_ifExp hc ha hb) fun s H Q ⟨T, R, hs, h⟩ => ⟨T, R, KM.bnd R h fun d G1 H1 _ eg eh nw R1 h1 => by
    cases d with
    | true => exact ⟨{ T with G := G1 }, R1, hs, h1⟩
    | false => exact ⟨{ T with G := G1 }, R1, hs, h1⟩⟩
theorem ss1_setM (i : Nat) {x : Str} (hN : X.N.Nodup) (he : EVM X E e f) (hi : X.N[i]? = some x := by rfl) (hx : Loc X.env.scope x := by first | exact Or.inl rfl | exact Or.inr rfl) (hs : swapsWith e (some (.Name x pos')) pos.line X.env = pure false := by rfl) (hf : X.fn x = true ∨ X.env.scope.names.lookup x = some .local := by first | exact .inl rfl | exact .inr rfl | assumption) :
    SS1 X E (.Assign [.Name x pos'] e pos) (fAsgM i f) :=
  ps_impL (ps_set hN hi hx he hs hf) fun Z s H sl ⟨T, R, h⟩ => by
    unfold fAsgM at h
    cases ew : (wSt T.r && decide (i + 1 < T.r.length)) with
    | false => rw [ew] at h; exact h.elim
    | true =>
      rw [ew] at h
      rw [Bool.and_eq_true] at ew
      refine ⟨T, R, wSt_has ew.1, ?_⟩
      simp only [if_true] at h
      cases e2 : f T.r with
      | stuck => rw [e2] at h; exact h.elim
      | err c =>
        rw [e2] at h
        exact h
      | ok p =>
        obtain ⟨d, os⟩ := p
        rw [e2] at h
        have hk : KS X.K X.mg E T Z ((PL.R.ok (d, os)).bnd fun p => .ok (.nx ((setSt T.r p.2).set i (.im p.1)))) := h
        exact KS.bndM R ew.1 hk fun d os G' H' _ a b h1 v rv => h1 _ G' H' (Same.refl _) (b.setIm rv (n_lt hi sl))
def fErrE (f : Rho → R (D × List Ob)) (r : Rho) : R D := if hasSt r then (match f r with
  | .err c => .err c
  | _ => .stuck) else .stuck
theorem EVM.toE (h : EVM X E e f) : EV X E e (fErrE f) := pe_imp h fun s H Q ⟨T, R, h⟩ => by
  unfold fErrE at h
  cases hs : hasSt T.r with
  | false => rw [hs] at h; exact h.elim
  | true =>
    rw [hs] at h
    refine ⟨T, R, hs, ?_⟩
    simp only [if_true] at h
    cases e : f T.r with
    | ok p => rw [e] at h; exact h.elim
    | err c => rw [e] at h; exact h
    | stuck => rw [e] at h; exact h
end
end PL
end
section
namespace PL
open PySem PySem.Spec PyProof.Rows L2
theorem Cxt.z {X : Cx} {E : WX} {k : Nat} (C : Cxt X E k) : Cxt X EZ k := ⟨C.hr, passZ, C.hc, C.nd, C.po, fun u s' h => by
  obtain ⟨_, _, _, _, _, _, _, _, _, _, _, _, _, _, _, _, z⟩ := h
  exact z.elim⟩
theorem setSt_self {r : Rho} (h : wSt r = true) : setSt r (stOf r) = r := by
  have e := wSt_at h
  unfold setSt
  apply List.ext_getElem?
  intro i
  by_cases z : r.length - 1 = i
  · subst z
    rw [List.getElem?_set_self (List.getElem?_eq_some_iff.mp e).1, e]
  · rw [List.getElem?_set_ne z]
theorem setSt_ne {r : Rho} {os : List Ob} {i : Nat} (h : i ≠ r.length - 1) : (setSt r os)[i]? = r[i]? := by
  unfold setSt
  rw [List.getElem?_set_ne (Ne.symm h)]
theorem LenOk.setSt {r : Rho} {s : St} {os : List Ob} (h : LenOk r s) (hs : hasSt r = true) : LenOk (setSt r os) s := by
  obtain ⟨w, os0, el, _⟩ := last_at hs
  have lt := (List.getElem?_eq_some_iff.mp el).1
  refine ⟨?_, ?_, fun i x hx => ?_⟩
  · unfold PL.setSt; rw [List.length_set]; exact h.lo
  · unfold PL.setSt; rw [List.length_set]; exact h.hi
  · by_cases z : i = r.length - 1
    · subst z
      unfold PL.setSt at hx
      rw [List.getElem?_set_self lt] at hx
      cases hx
      exact ⟨fun _ => (h.st _ _ el).mp trivial, fun _ => trivial⟩
    · rw [setSt_ne z] at hx
      exact h.st i x hx
theorem last_ge {r : Rho} {s : St} (h : LenOk r s) (hs : hasSt r = true) : s.length ≤ r.length - 1 := by
  obtain ⟨w, os0, el, _⟩ := last_at hs
  exact (h.st _ _ el).mp trivial
section
variable {K : PySem.W.Frag} {G0 H0 G H : Hp} {r : Rho} {s : St}
theorem Rel.upH {Dl : Addr} {o : HO} (R : Rel K G0 H0 r s G H) (hl : H Dl = some o) (hg : G Dl = none) (h0 : H0 Dl = none) (hn : ∀ i, ¬ OwnAt r s i Dl) : Rel K G0 (upd H0 Dl o) r s G H where
  gg := R.gg
  hh := fun a u e => by
    by_cases z : a = Dl
    · subst z; rw [upd_same] at e; cases e; exact hl
    · rw [upd_ne z] at e; exact R.hh a u e
  gh := R.gh
  gf := R.gf
  nw := fun a u e1 e2 => by
    by_cases z : a = Dl
    · subst z; rw [hg] at e1; cases e1
    · rw [upd_ne z]; exact R.nw a u e1 e2
  sl := fun i x hx => by
    have q := R.sl i x hx
    cases x with
    | un => exact q
    | im d => exact q
    | ol ds =>
      obtain ⟨a, xs, e1, e2, e3, e4, e5⟩ := q
      refine ⟨a, xs, e1, e2, e3, ?_, e5⟩
      rw [upd_ne]; exact e4
      rintro rfl
      refine hn i ⟨by rw [hx]; trivial, ?_⟩
      cases es : s[i]? with
      | none => rw [es] at e1; cases e1
      | some v => rw [es] at e1; exact congrArg some e1
    | od ds =>
      obtain ⟨a, xs, e1, e2, e3, e4, e5⟩ := q
      refine ⟨a, xs, e1, e2, e3, ?_, e5⟩
      rw [upd_ne]; exact e4
      rintro rfl
      refine hn i ⟨by rw [hx]; trivial, ?_⟩
      cases es : s[i]? with
      | none => rw [es] at e1; cases e1
      | some v => rw [es] at e1; exact congrArg some e1
    | st w os =>
      have S : StOk K H0 G H w os := q
      refine (⟨S.at_, S.un, S.lt, fun a k e hw => ?_⟩ : StOk K (upd H0 Dl o) G H w os)
      by_cases z : a = Dl
      · subst z; rw [hg] at e; cases e
      · rw [upd_ne z]; exact S.ch a k e hw
  ds := R.ds
  ln := R.ln
theorem Rel.dnH {H0' : Hp} (R : Rel K G0 H0' r s G H) (e : Ex H0 H0') : Rel K G0 H0 r s G H where
  gg := R.gg
  hh := e.trans R.hh
  gh := R.gh
  gf := R.gf
  nw := fun a u e1 e2 => e.free (R.nw a u e1 e2)
  sl := fun i x hx => by
    have q := R.sl i x hx
    cases x with
    | un => exact q
    | im d => exact q
    | ol ds =>
      obtain ⟨a, xs, e1, e2, e3, e4, e5⟩ := q
      exact ⟨a, xs, e1, e2, e3, e.free e4, e5⟩
    | od ds =>
      obtain ⟨a, xs, e1, e2, e3, e4, e5⟩ := q
      exact ⟨a, xs, e1, e2, e3, e.free e4, e5⟩
    | st w os =>
      have S : StOk K H0' G H w os := q
      exact (⟨S.at_, S.un, S.lt, fun a k m hw => e.free (S.ch a k m hw)⟩ : StOk K H0 G H w os)
  ds := R.ds
  ln := R.ln
def plainV (vs : List Nat) (r : Rho) : Bool := vs.all fun i => match r[i]? with
  | some .un => true
  | some (.im _) => true
  | _ => false
theorem plainV_get {vs : List Nat} {i : Nat} {x : Sl} (h : plainV vs r = true) (hi : i ∈ vs) (hx : r[i]? = some x) : x = .un ∨ ∃ d, x = .im d := by
  have q := List.all_eq_true.mp h i hi
  rw [hx] at q
  cases x with
  | un => exact .inl rfl
  | im d => exact .inr ⟨d, rfl⟩
  | _ => cases q
theorem Rel.outer {G6 H6 : Hp} {s4 : St} {r6 r' : Rho} {vs : List Nat} (R : Rel K G0 H0 r s G H) (R6 : Rel K G0 H0 r6 s4 G6 H6) (eg : Ex G G6) (ln : LenOk r' s) (hp : plainV vs r' = true) (hi : ∀ i ∈ vs, r'[i]? = r[i]?) (ho : ∀ i, i ∉ vs → r6[i]? = r'[i]? ∧ s4[i]? = s[i]?) : Rel K G0 H0 r' s G6 H6 where
  gg := R6.gg
  hh := R6.hh
  gh := R6.gh
  gf := R6.gf
  nw := R6.nw
  sl := fun i x hx => by
    by_cases m : i ∈ vs
    · rcases plainV_get hp m hx with rfl | ⟨d, rfl⟩
      · trivial
      · rw [hi i m] at hx
        obtain ⟨v, e1, e2⟩ := R.sl i _ hx
        exact ⟨v, e1, e2.mono eg⟩
    · obtain ⟨e1, e2⟩ := ho i m
      rw [← e1] at hx
      rw [← e2]
      exact R6.sl i x hx
  ds := fun i j a h1 h2 => by
    have key : ∀ i, OwnAt r' s i a → i ∉ vs := fun i h m => by
      obtain ⟨q, _⟩ := h
      cases e : r'[i]? with
      | none => rw [e] at q; exact q
      | some x =>
        rcases plainV_get hp m e with rfl | ⟨d, rfl⟩ <;> (rw [e] at q; exact q)
    have tr : ∀ i, OwnAt r' s i a → OwnAt r6 s4 i a := fun i h => by
      obtain ⟨e1, e2⟩ := ho i (key i h)
      exact ⟨by rw [e1]; exact h.1, by rw [e2]; exact h.2⟩
    exact R6.ds i j a (tr i h1) (tr j h2)
  ln := ln
end
def lcGoM (vs : List Nat) (t : Tg) (fe : Rho → R (D × List Ob)) : Rho → List D → R (List D × List Ob)
  | r, [] => .ok ([], stOf r)
  | r, d :: ds => (noE (setT t d (wipeR r vs))).bnd fun r2 => if wSt r2 then (noE (fe r2)).bnd fun p => (imD p.1).bnd fun y => (lcGoM vs t fe (setSt r p.2) ds).bnd fun q => .ok (y :: q.1, q.2) else .stuck
theorem lcGoM_noerr {vs : List Nat} {t : Tg} {fe : Rho → R (D × List Ob)} : ∀ {ds : List D} {r : Rho} {c : Str}, lcGoM vs t fe r ds ≠ .err c
  | [], r, c, h => by cases h
  | d :: ds, r, c, h => by
    simp only [lcGoM] at h
    cases e1 : noE (setT t d (wipeR r vs)) with
    | stuck => rw [e1] at h; cases h
    | err c' => cases e0 : setT t d (wipeR r vs) <;> (rw [e0] at e1; cases e1)
    | ok r2 =>
      rw [e1, bnd_ok] at h
      cases w : wSt r2 with
      | false => rw [w] at h; cases h
      | true =>
        rw [w, if_pos rfl] at h
        cases e2 : noE (fe r2) with
        | stuck => rw [e2] at h; cases h
        | err c' => cases e0 : fe r2 <;> (rw [e0] at e2; cases e2)
        | ok p =>
          rw [e2, bnd_ok] at h
          cases e3 : imD p.1 with
          | stuck => rw [e3] at h; cases h
          | err c' =>
            unfold imD at e3
            split at e3 <;> cases e3
          | ok y =>
            rw [e3, bnd_ok] at h
            cases e4 : lcGoM vs t fe (setSt r p.2) ds with
            | stuck => rw [e4] at h; cases h
            | err c' => exact lcGoM_noerr e4
            | ok q => rw [e4] at h; cases h
def fLcM (vs : List Nat) (t : Tg) (fi : Rho → R (List D)) (fe : Rho → R (D × List Ob)) (r : Rho) : R (List D × Rho) := if plainV vs r then (fi r).bnd fun ds => if decide (ds.length < sizeLine) then (lcGoM vs t fe r ds).bnd fun q => .ok (q.1, setSt r q.2) else .stuck else .stuck
theorem lcM_red {K : PySem.W.Frag} {mg : Str → Option Value} {E : WX} {vs : List Nat} {t : Tg} {fi : Rho → R (List D)} {fe : Rho → R (D × List Ob)} (hsl : ∀ i ∈ t.slots, i ∈ vs) {s : St} {H : Hp} {Q : VK} (hvs : ∀ i ∈ vs, i < s.length) (h : tNX K mg E (fLcM vs t fi fe) s H Q) :
    tLc (tI K mg E false fi) (tG K t) (tT K mg EZ (fun _ => .ok true)) (tEM K mg EZ fe) vs s H Q := by
  obtain ⟨T, R, hw, h⟩ := h
  refine ⟨T, R, ?_⟩
  unfold fLcM at h
  cases ep : plainV vs T.r with
  | false => rw [ep] at h; exact h.elim
  | true =>
    rw [ep, if_pos rfl] at h
    refine KX.bndE h fun ds G1 H1 ed eg eh nw1 R1 h1 J B eB hBe wk Dl hD => ?_
    have hBe := hBe rfl
    subst hBe
    cases el : decide (ds.length < sizeLine) with
    | false => rw [el] at h1; exact h1.elim
    | true =>
      rw [el, if_pos rfl] at h1
      have len := of_decide_eq_true el
      cases eo : lcGoM vs t fe T.r ds with
      | err c => exact absurd eo lcGoM_noerr
      | stuck => rw [eo] at h1; exact h1.elim
      | ok q =>
        obtain ⟨zs, osF⟩ := q
        rw [eo] at h1
        have hs := wSt_has hw
        have h0D : T.H0 Dl = none := R1.hh.free hD
        have own0 : ∀ i, ¬ OwnAt T.r s i Dl := fun i o => by
          obtain ⟨⟨u, e⟩, _⟩ := own_in R1 o
          rw [e] at hD
          cases hD
        have lge := last_ge R1.ln hs
        have ownS : ∀ os i, ¬ OwnAt (setSt T.r os) s i Dl := fun os i o => by
          by_cases z : i = T.r.length - 1
          · obtain ⟨q, _⟩ := o
            subst z
            unfold setSt at q
            obtain ⟨w, os0, el, _⟩ := last_at hs
            rw [List.getElem?_set_self (List.getElem?_eq_some_iff.mp el).1] at q
            exact q
          · exact own0 i ⟨by rw [← setSt_ne (os := os) z]; exact o.1, o.2⟩
        have ne_last : ∀ i ∈ vs, i ≠ T.r.length - 1 := fun i hi => by
          have := hvs i hi
          omega
        have plS : ∀ os, plainV vs (setSt T.r os) = true := fun os => by
          unfold plainV at ep ⊢
          rw [List.all_eq_true] at ep ⊢
          intro i hi
          rw [setSt_ne (ne_last i hi)]
          exact ep i hi
        have hsS : ∀ os, hasSt (setSt T.r os) = true := fun os => wSt_has (wSt_set hs)
        have start : setSt T.r (stOf T.r) = T.r := setSt_self hw
        refine lc_it wk (fun i H' => ∃ G' acc ys zs' os, Rel K T.G0 T.H0 (setSt T.r os) s G' H' ∧ Ex G1 G' ∧ H' Dl = some (.lst acc) ∧ G' Dl = none ∧ RpA K G' acc ys ∧ lcGoM vs t fe (setSt T.r os) (ds.drop i) = .ok (zs', osF) ∧ ys ++ zs' = zs ∧ ys.length ≤ i) ?_ ?_ ?_ ?_
        · refine ⟨G1, [], [], zs, stOf T.r, ?_, Same.refl _, upd_same, R1.gf _ hD, .nil, by rw [List.drop_zero, start]; exact eo, rfl, Nat.le_refl _⟩
          rw [start]
          exact R1.lay hD
        · rintro i H' _ ⟨G', acc, ys, zs', os, RO, eg2, _⟩
          exact (um_ex eg2).trans RO.gh
        · rintro i x H2 H3 hi ⟨G', acc, ys, zs', os, RO, eg2, hl, hg, ra, go, ez, yl⟩ ⟨d, hd, yd⟩
          have dr : ds.drop i = d :: ds.drop (i + 1) := by
            have hlt := (List.getElem?_eq_some_iff.mp hd).1
            rw [List.drop_eq_getElem_cons hlt]
            congr 1
            exact (List.getElem?_eq_some_iff.mp hd).2
          rw [dr] at go
          simp only [lcGoM] at go
          obtain ⟨r2, g1, go⟩ := bnd_eq_ok go
          have g1 := noE_ok g1
          cases w2 : wSt r2 with
          | false => rw [w2] at go; cases go
          | true =>
          rw [w2, if_pos rfl] at go
          obtain ⟨p, g2, go⟩ := bnd_eq_ok go
          obtain ⟨y, g3, go⟩ := bnd_eq_ok go
          obtain ⟨q, g4, go⟩ := bnd_eq_ok go
          have g2 := noE_ok g2
          obtain ⟨y0, os2⟩ := p
          obtain ⟨zs2, osG⟩ := q
          cases go
          obtain ⟨ey, no⟩ := imD_ok g3
          have ey : y = y0 := ey
          subst ey
          rw [setSt_set] at g4
          have RW : Rel K T.G0 (upd T.H0 Dl (.lst acc)) (wipeR (setSt T.r os) vs) (L2.wipe s vs) G' H2 := (RO.wipe vs hvs).upH hl hg h0D fun i o => by
            have i1 : i ∉ vs := fun m => by
              obtain ⟨q, _⟩ := o
              rw [wipeR_get, if_pos m] at q
              cases e : (setSt T.r os)[i]? with
              | none => rw [e] at q; exact q
              | some z => rw [e] at q; exact q
            refine ownS os i ⟨?_, ?_⟩
            · have q := o.1
              rw [wipeR_get, if_neg i1] at q
              exact q
            · have q := o.2
              rw [wipe_out i1] at q
              exact q
          obtain ⟨G3, R3, R3o, rx, eg3, eh3⟩ : ∃ G3, Rel K T.G0 (upd T.H0 Dl (.lst acc)) (wipeR (setSt T.r os) vs) (L2.wipe s vs) G3 H3 ∧ Rel K T.G0 T.H0 (setSt T.r os) s G3 H3 ∧ RpO K G3 x d ∧ Ex G' G3 ∧ Ex H2 H3 := by
            rcases yd with ⟨e1, e2⟩ | ⟨p, ys, es, e1, e2, e3, e4, e5⟩
            · subst e1
              exact ⟨G', RW, RO, e2.mono eg2, Same.refl _, Same.refl _⟩
            · subst e1 e3 e4
              have xg : Ex G' (upd G' p (.tup ys)) := ex_new (RW.gf _ e2)
              exact ⟨upd G' p (.tup ys), RW.new e2, RO.new e2, .pure (.tup (SqT.of upd_same) ((e5.mono eg2).mono xg)), xg, ex_new e2⟩
          have ag := setT_agree g1
          refine ⟨⟨T.G0, upd T.H0 Dl (.lst acc), wipeR (setSt T.r os) vs, G3⟩, d, R3, rx, ?_⟩
          show (match setT t d (wipeR (setSt T.r os) vs) with
            | .ok r' => _
            | _ => False)
          rw [g1]
          intro s4 R4 a4
          have w4 : L2.wipe s4 vs = L2.wipe s vs := (Agree.wipe a4 hsl).trans (wipe_idem s vs)
          refine ⟨w4, ⟨T.G0, upd T.H0 Dl (.lst acc), r2, G3⟩, R4, ?_⟩
          intro G5 H5 eg5 eh5 nw5 R5
          show tEM K mg EZ fe s4 H5 _
          refine ⟨⟨T.G0, upd T.H0 Dl (.lst acc), r2, G5⟩, R5, wSt_has w2, ?_⟩
          show KM K mg EZ ⟨T.G0, upd T.H0 Dl (.lst acc), r2, G5⟩ s4 H5 _ (fe r2)
          rw [g2]
          intro G6 H6 eg6 R6 v rv
          have R6 : Rel K T.G0 (hid G5 (upd T.H0 Dl (.lst acc))) (setSt r2 os2) s4 G6 H6 := R6
          rw [hid_eq R5 w2] at R6
          have hl6 : H6 Dl = some (.lst acc) := R6.hh _ _ upd_same
          have g0D : T.G0 Dl = none := RO.gg.free hg
          have g6D : G6 Dl = none := by
            cases q : G6 Dl with
            | none => rfl
            | some o =>
              have z : upd T.H0 Dl (.lst acc) Dl = none := R6.nw Dl o q g0D
              rw [upd_same] at z
              cases z
          have R6' : Rel K T.G0 T.H0 (setSt r2 os2) s4 G6 H6 := R6.dnH (ex_new h0D)
          have eg36 : Ex G3 G6 := eg5.trans eg6
          have l2 : r2.length = T.r.length := by
            rw [ag.1, wipeR_length]
            unfold setSt
            rw [List.length_set]
          have RO6 : Rel K T.G0 T.H0 (setSt T.r os2) s G6 H6 := by
            refine R3o.outer (vs := vs) R6' eg36 (R1.ln.setSt hs) (plS os2) (fun i hi => ?_) (fun i hi => ?_)
            · rw [setSt_ne (ne_last i hi), setSt_ne (ne_last i hi)]
            · refine ⟨?_, ?_⟩
              · by_cases z : i = T.r.length - 1
                · subst z
                  unfold setSt
                  obtain ⟨_, _, el, _⟩ := last_at hs
                  have lt := (List.getElem?_eq_some_iff.mp el).1
                  rw [l2, List.getElem?_set_self lt, List.getElem?_set_self (by rw [l2]; exact lt)]
                · rw [setSt_ne (by rw [l2]; exact z), setSt_ne z, ag.2 i (fun m => hi (hsl i m)), wipeR_get, if_neg hi, setSt_ne z]
              · rw [a4.2 i (fun m => hi (hsl i m)), wipe_out hi]
          have ra6 : RpA K G6 acc ys := (ra.mono eg3).mono eg36
          refine ⟨acc, hl6, ?_, G6, acc ++ [v], ys ++ [y], zs2, os2, RO6.mut g6D h0D (ownS os2), (eg2.trans eg3).trans eg36, upd_same, g6D, ra6.snoc (by
            cases rv with
            | pure h => exact h
            | obj h => cases no
            | tpo h r => cases no), g4, by rw [List.append_assoc]; exact ez, ?_⟩
          · have := ra.length
            omega
          · rw [List.length_append, List.length_singleton]
            omega
        · rintro H' ⟨G', acc, ys, zs', os, RO, eg2, hl, hg, ra, go, ez, yl⟩
          rw [List.drop_length] at go
          simp only [lcGoM] at go
          cases go
          rw [List.append_nil] at ez
          subst ez
          rw [stOf_set hs] at h1
          exact h1 G' H' eg2 RO Dl acc (ownS os) h0D hl hg ra
section
variable {X : Cx} {E : WX} {pos : Pos} {elt tg iter : Expr} {scope : Scope} {fi : Rho → R (List D)} {fe : Rho → R (D × List Ob)} {t : Tg}
theorem enx_lcM (own : List (Str × Nat)) (hc : X.calm = true) (hN : X.N.Nodup) (hi : EI X E false tg iter fi) (ok : BlkOk X.N X.env.scope scope own)
    (hg : ∀ (s : Shared) (H : Hp) (C : Addr) (cl : List (Str × Addr)) (fp : List Addr), EG (X.blk s H scope (compEnvC scope cl C X.env) fp) tg t)
    (he : ∀ (s : Shared) (H : Hp) (C : Addr) (cl : List (Str × Addr)) (fp : List Addr), EVM (X.blk s H scope (compEnvC scope cl C X.env) fp) EZ elt fe) (hsl : (t.slots.all fun i => (own.map (·.2)).contains i) = true := by rfl) (hs : ∀ x, foldedSetIterable iter X.env x = pure x := by intro _; rfl) :
    ENX X E (.ListComp elt [⟨tg, iter, [], 0⟩] scope pos) (fLcM (own.map (·.2)) t fi fe) :=
  pe_impL (pe_lc (g := tG X.K t) (tt := tT X.K X.mg EZ (fun _ => .ok true)) (te := tEM X.K X.mg EZ fe) hc hN hi ok hg (fun _ _ _ _ _ => ets_nil) he hs) fun s H Q sl h => lcM_red (fun i hi => by
    have := List.all_eq_true.mp hsl i hi
    simpa using this) (blk_lt ok sl) h
end
end PL
end
section
namespace PL
open PySem PySem.Spec PyProof.Rows L2
structure FnV (P : Program) (w : World) (K : PySem.W.Frag) (mg : Str → Option Value) (base : Heap) (k : Nat) (x : Str) (n : Nat) (F : List D → R D) : Prop where
  fn : Fn P w K mg base k x n F
  at_ : mg x = some (.ref (He.ga K x))
inductive TbV (P : Program) (w : World) (K : PySem.W.Frag) (mg : Str → Option Value) (base : Heap) (kx n : Nat) : List (Str × (List D → R D)) → Prop
  | nil : TbV P w K mg base kx n []
  | cons {k : Nat} {x : Str} {F : List D → R D} {tb : List (Str × (List D → R D))} (h : FnV P w K mg base k x n F) (hk : k ≤ kx) (t : TbV P w K mg base kx n tb) : TbV P w K mg base kx n ((x, F) :: tb)
theorem TbV.get {P : Program} {w : World} {K : PySem.W.Frag} {mg : Str → Option Value} {base : Heap} {kx n : Nat} {x : Str} {F : List D → R D} : ∀ {tb : List (Str × (List D → R D))}, TbV P w K mg base kx n tb → tb.lookup x = some F → ∃ k, k ≤ kx ∧ FnV P w K mg base k x n F
  | _, .nil, h => by cases h
  | _, .cons (x := y) h hk t, e => by
    rw [List.lookup_cons] at e
    cases q : (x == y) with
    | true =>
      rw [q] at e
      cases e
      have : x = y := by simpa using q
      subst this
      exact ⟨_, hk, h⟩
    | false =>
      rw [q] at e
      exact t.get e
section
variable {X : Cx} {CX : CXT} {E : St → XK} {pos : Pos} {fe e : Expr} {es : List Expr} {tf : TE} {t : TA}
end
def noErr {α : Type} : R α → R α
  | .err _ => .stuck
  | x => x
def fMR0 (c m : Str) (n : Nat) (F : List Ob → List D → R D) (f : Rho → R (D × List Ob)) (r : Rho) : R (D × List Ob) := (f r).bnd fun p => (noErr (fMethR c m n F (fK p.1) fNil (setSt r p.2))).bnd fun d => (obD d).bnd fun d => .ok (d, p.2)
section
variable {X : Cx} {E : WX} {fe e o : Expr} {es : List Expr} {ff : Rho → R D} {fs : Rho → R (List D)} {pos : Pos} {kx n : Nat}
theorem evm_methR0M {c m : Str} {apos : Pos} {k : Nat} {F : List Ob → List D → R D} {f : Rho → R (D × List Ob)} (hc : Cls X.K (He.ga X.K c)) (hF : FnRm X.prog X.w X.K X.mg X.base k c m n F) (hr : Room kx X.A) (hx : ∀ σ, PassesAt (L2.CX X.prog X.w) X σ (WE E σ)) (ho : EVM X E o f) (hk : k ≤ kx := by decide) {pl : Sem Bool}
    (ht : eval (.Call (.Attribute o m apos) [] [] pos) X.env = (do
      let ov ← eval o X.env
      standAt apos.atName
      let (f, first) ← holding [ov] (getMethod ov m pl)
      callWith pos f first (backTo pos (starEach [] X.env)) (backToKw pos (keywordEach [] X.env))) := by rfl) : EVM X E (.Call (.Attribute o m apos) [] [] pos) (fMR0 c m n F f) := by
  obtain ⟨f', fd, ps, hm, hb, ok⟩ := hF.ex
  refine pe_imp (pe_methX0 (E := WE E) (pl := pl) ho hc hm ok (hr.mono hk) hb hx ht) fun s H Q ⟨T, R, hs, h⟩ => ⟨T, R, hs, ?_⟩
  unfold fMR0 at h
  cases e : f T.r with
  | stuck => rw [e] at h; exact h.elim
  | err c => rw [e] at h; exact h
  | ok p =>
    obtain ⟨d, os⟩ := p
    rw [e] at h
    intro G1 H1 eg R1 v rv
    have h1 : KM X.K X.mg E T s H (fun d G' H' => ∀ v, RpO X.K G' v d → Q v H') ((noErr (fMethR c m n F (fK d) fNil (setSt T.r os))).bnd fun d2 => (obD d2).bnd fun d3 => .ok (d3, os)) := h
    have q := methR_red (E := E) (mg := X.mg) (Q := Q) (c := c) (m := m) (n := n) (F := F) (fo := fK d) (fs := fNil) (T := { T with H0 := hid T.G T.H0, r := setSt T.r os, G := G1 }) R1 (by
      cases e2 : fMethR c m n F (fK d) fNil (setSt T.r os) with
      | stuck => rw [e2] at h1; exact h1.elim
      | err c' => rw [e2] at h1; exact h1.elim
      | ok d2 =>
        rw [e2] at h1
        intro G2 H2 eg2 eh2 nw2 R2 v2 rv2
        cases eo : obD d2 with
        | err c => cases d2 <;> cases eo
        | stuck => simp only [noErr, bnd_ok, eo, bnd_stuck] at h1; exact h1.elim
        | ok d3 =>
          have h2 : KM X.K X.mg E T s H (fun d G' H' => ∀ v, RpO X.K G' v d → Q v H') (.ok (d3, os)) := by simpa only [noErr, bnd_ok, eo] using h1
          obtain ⟨rfl, no⟩ := obD_ok eo
          exact h2 G2 H2 (eg.trans eg2) R2 v2 (RpE.ob no rv2))
    obtain ⟨a, dx, fvs, e1, e2, e3, T2, R2, q2⟩ := KE.here q R1 v rv.e
    exact ⟨a, dx, fvs, e1, e2, e3, KE.here q2 R2 [] .nil⟩
end
end PL
end
section
open PySem PySem.Spec PyProof.Rows L2 PL.G
namespace PL.W50
noncomputable def B_u_law_word : Rho → R Fl := (fSeq (fAsgN 1 (fLst (fCons (fIsE ecs (Str.ofString "NoBoard") (fVar 0)) (fCons (fIsE ecs (Str.ofString "NoBook") (fVar 0)) (fCons (fIsE ecs (Str.ofString "NoLayer") (fVar 0)) fNil)))))
    (fSeq (fExt 1 (fL (fLst (fCons (fIsE ecs (Str.ofString "NoNumber") (fVar 0)) fNil))))
    (fSeq (fExt 1 (fL (fLst (fCons (fIsE ecs (Str.ofString "NoPlan") (fVar 0)) (fCons (fIsE ecs (Str.ofString "NoRow") (fVar 0)) (fCons (fIsE ecs (Str.ofString "NoShares") (fVar 0)) fNil))))))
    (fSeq (fExt 1 (fL (fLst (fCons (fIsE ecs (Str.ofString "NoStand") (fVar 0)) (fCons (fIsE ecs (Str.ofString "NoText") (fVar 0)) (fCons (fIsE ecs (Str.ofString "NoWay") (fVar 0)) fNil))))))
    (fSeq (fIfS (fOr (fTest (fBin neD (fBm cntD true (fVar 1)) (fK (.int 1)))) (fOr (fNot (fTest (fIsE ecs (Str.ofString "ValueError") (fVar 0)))) (fNot (fTest (fIsE ecs (Str.ofString "BlendError") (fVar 0)))))) (fRet (fK (.str (Str.ofString "wrong")))) fNx)
    (fSeq (fAsgN 2 (fLst (fCons (fK (.str (Str.ofString "no board"))) (fCons (fK (.str (Str.ofString "no book"))) (fCons (fK (.str (Str.ofString "no layer"))) (fCons (fK (.str (Str.ofString "no number"))) (fCons (fK (.str (Str.ofString "no plan"))) (fCons (fK (.str (Str.ofString "no row"))) (fCons (fK (.str (Str.ofString "no shares"))) fNil)))))))))
    (fSeq (fExt 2 (fL (fLst (fCons (fK (.str (Str.ofString "no stand"))) (fCons (fK (.str (Str.ofString "no text"))) (fCons (fK (.str (Str.ofString "no way"))) fNil))))))
    (fRet (fBin ixD (fVar 2) (fBm idxD true (fVar 1)))))))))))
noncomputable def F_u_law_word : List D → R D := runF B_u_law_word 3
noncomputable def B_u_law_eased : Rho → R Fl := (fSeq (fIfS (fTest (fBin geI (fBin mulD (fBin ixD (fVar 1) (fK (.int 0))) (fBin ixD (fVar 2) (fK (.int 1)))) (fBin mulD (fBin ixD (fVar 2) (fK (.int 0))) (fBin ixD (fVar 1) (fK (.int 1)))))) (fRet (fTup (fCons (fK (.int 1)) (fCons (fK (.int 1)) fNil)))) fNx)
    (fSeq (fAsg (.nm 3) (fCall 2 F_u_law_low (fCons (fBin mulD (fBin ixD (fVar 1) (fK (.int 0))) (fBin ixD (fVar 2) (fK (.int 1)))) (fCons (fBin mulD (fBin ixD (fVar 1) (fK (.int 1))) (fBin ixD (fVar 2) (fK (.int 0)))) fNil))))
    (fSeq (fIfS (fTest (fBin eqD (fVar 0) (fK (.str (Str.ofString "even"))))) (fRet (fVar 3)) fNx)
    (fRet (fCall 2 F_u_law_low (fCons (fBin mulD (fBin mulD (fBin ixD (fVar 3) (fK (.int 0))) (fBin ixD (fVar 3) (fK (.int 0)))) (fBin subI (fBin mulD (fK (.int 3)) (fBin ixD (fVar 3) (fK (.int 1)))) (fBin mulD (fK (.int 2)) (fBin ixD (fVar 3) (fK (.int 0)))))) (fCons (fBin powI (fBin ixD (fVar 3) (fK (.int 1))) (fK (.int 3))) fNil)))))))
noncomputable def F_u_law_eased : List D → R D := runF B_u_law_eased 4
noncomputable def B_u_law_book : Rho → R Fl := (fSeq (fAsg (.nm 2) (fBin addD (fK (.int 1)) (fCall 3 F_u_law_pick (fCons (fVar 0) (fCons (fVar 1) (fCons (fK (.int 4)) fNil))))))
    (fSeq (fAsg (.nm 3) (fL (fLst (fCons (fK (.str (Str.ofString "a"))) (fCons (fK (.str (Str.ofString "idle"))) (fCons (fK (.str (Str.ofString "run"))) (fCons (fK (.str (Str.ofString "walk"))) (fCons (fK (.str (Str.ofString "z"))) (fCons (fK (.str (Str.ofString "zeal"))) fNil)))))))))
    (fSeq (fAsg (.nm 4) (fL (fLc [6, 7] (.tp [(.nm 6), (.nm 7)]) (fEnum true (fConsB (fVar 3) fNil)) (fTest (fBin gtI (fCall 3 F_u_law_pick (fCons (fVar 0) (fCons (fBin addD (fBin addD (fVar 1) (fK (.int 1))) (fVar 6)) (fCons (fK (.int 3)) fNil)))) (fK (.int 0)))) (fVar 7))))
    (fSeq (fAsgN 5 (fLst fNil))
    (fSeq (fFor (.tp [(.nm 6), (.nm 7)]) (fEnum false (fConsB (fIf (fTest (fBin neD (fVar 4) (fL (fLst fNil)))) (fVar 4) (fL (fLst (fCons (fK (.str (Str.ofString "sole"))) fNil)))) fNil)) (fSeq (fAsg (.nm 8) (fBin ixD (fL (fLst (fCons (fK (.int 3)) (fCons (fK (.int 20)) (fCons (fK (.int 1000)) fNil))))) (fCall 3 F_u_law_pick (fCons (fVar 0) (fCons (fBin addD (fBin addD (fVar 1) (fK (.int 10))) (fVar 6)) (fCons (fK (.int 3)) fNil))))))
    (fSeq (fAsg (.nm 9) (fBin addD (fBin addD (fVar 1) (fK (.int 20))) (fBin mulD (fK (.int 4)) (fVar 6))))
    (fApp 5 (fTup (fCons (fVar 7) (fCons (fCallB tupleD (fConsB (fL (fLc [10] (.nm 10) (fRg rangeD1 (fCons (fVar 2) fNil)) (fun _ => .ok true) (fBin addD (fBin subI (fCall 3 F_u_law_pick (fCons (fVar 0) (fCons (fBin addD (fVar 9) (fVar 10)) (fCons (fBin subI (fBin mulD (fK (.int 2)) (fVar 8)) (fK (.int 1))) fNil)))) (fVar 8)) (fK (.int 1))))) fNil)) fNil)))))))
    (fRet (fCallB tupleN (fConsB (fVar 5) fNil))))))))
noncomputable def F_u_law_book : List D → R D := runF B_u_law_book 11
noncomputable def B_u_law_do : Rho → R Fl := (fSeqM (fAsg (.nm 5) (fK .non))
    (fSeqM (fAsg (.nm 6) (fK .non))
    (fSw (fSeq (fTry 7 5 ecs (fIfS (fTest (fBin eqD (fVar 0) (fK (.int 0)))) (fAsgM 6 (fMethM (Str.ofString "Mover") (Str.ofString "call") 4 F_Mover_o_call (fVar 1) (fConsA (fVar 2) (fConsA (fVar 3) (fConsA (fVar 4) fNil))))) (fAsgM 6 (fIfM (fTest (fBin eqD (fVar 0) (fK (.int 1)))) (fMethM (Str.ofString "Mover") (Str.ofString "go_on") 2 F_Mover_o_go_on (fVar 1) (fConsA (fVar 3) fNil)) (fMR0 (Str.ofString "Mover") (Str.ofString "goal") 1 F_Mover_o_goal (fMake (Str.ofString "Mover") 3 F_Mover_o_u__init_u_ (fConsA (fVar 1) (fConsA (fVar 2) fNil))))))))
    (fSeq (fIfS (fTest (fBin isD (fVar 5) (fK .non))) (fRetM (fVar 6)) fNx)
    (fRetM (fCall 1 F_u_law_word (fCons (fVar 5) fNil))))))))
noncomputable def F_u_law_do : List Ob → List D → R (D × List Ob) := runM B_u_law_do 8
noncomputable def B_u_law_do_r : Rho → R Fl := (fSeq (fAsg (.nm 5) (fK .non))
    (fSeq (fAsg (.nm 6) (fK .non))
    (fSeq (fTry 7 5 ecs (fIfS (fTest (fBin eqD (fVar 0) (fK (.int 0)))) (fAsg (.nm 6) (fErrE (fMethM (Str.ofString "Mover") (Str.ofString "call") 4 F_Mover_o_call (fVar 1) (fConsA (fVar 2) (fConsA (fVar 3) (fConsA (fVar 4) fNil)))))) (fAsg (.nm 6) (fErrE (fIfM (fTest (fBin eqD (fVar 0) (fK (.int 1)))) (fMethM (Str.ofString "Mover") (Str.ofString "go_on") 2 F_Mover_o_go_on (fVar 1) (fConsA (fVar 3) fNil)) (fMR0 (Str.ofString "Mover") (Str.ofString "goal") 1 F_Mover_o_goal (fMake (Str.ofString "Mover") 3 F_Mover_o_u__init_u_ (fConsA (fVar 1) (fConsA (fVar 2) fNil)))))))))
    (fSeq (fIfS (fTest (fBin isD (fVar 5) (fK .non))) (fRet (fVar 6)) fNx)
    (fRet (fCall 1 F_u_law_word (fCons (fVar 5) fNil)))))))
noncomputable def F_u_law_do_r : List Ob → List D → R D := runR B_u_law_do_r 8
noncomputable def B_u_law_refuses : Rho → R Fl := (fSeq (fAsg (.nm 2) (fBin ixD (fBin ixD (fVar 0) (fK (.int 0))) (fK (.int 0))))
    (fSeq (fAsgN 3 (fLst (fCons (fTup (fCons (fK (.int 0)) (fCons (fK (.str (Str.ofString "none"))) (fCons (fK .non) (fCons (fK .non) (fCons (fK (.str (Str.ofString "no stand"))) fNil)))))) (fCons (fTup (fCons (fK (.int 0)) (fCons (fK .non) (fCons (fTup (fCons (fK (.int 1)) (fCons (fK (.int 1)) fNil))) (fCons (fK (.str (Str.ofString "even"))) (fCons (fK (.str (Str.ofString "no stand"))) fNil)))))) fNil))))
    (fSeq (fExt 3 (fL (fLst (fCons (fTup (fCons (fK (.int 0)) (fCons (fVar 2) (fCons (fTup (fCons (fNeg (fK (.int 1))) (fCons (fK (.int 1)) fNil))) (fCons (fK .non) (fCons (fK (.str (Str.ofString "no number"))) fNil)))))) fNil))))
    (fSeq (fExt 3 (fL (fLst (fCons (fTup (fCons (fK (.int 0)) (fCons (fVar 2) (fCons (fK .non) (fCons (fK .non) (fCons (fK (.str (Str.ofString "no number"))) fNil)))))) (fCons (fTup (fCons (fK (.int 0)) (fCons (fVar 2) (fCons (fTup (fCons (fK (.int 2)) (fCons (fK (.int 4)) fNil))) (fCons (fK (.str (Str.ofString "even"))) (fCons (fK (.str (Str.ofString "no number"))) fNil)))))) fNil)))))
    (fSeq (fExt 3 (fL (fLst (fCons (fTup (fCons (fK (.int 0)) (fCons (fVar 2) (fCons (fK (.int 1)) (fCons (fK (.str (Str.ofString "even"))) (fCons (fK (.str (Str.ofString "no number"))) fNil)))))) fNil))))
    (fSeq (fExt 3 (fL (fLst (fCons (fTup (fCons (fK (.int 0)) (fCons (fVar 2) (fCons (fTup (fCons (fK (.int 1)) (fCons (fK (.int 1)) fNil))) (fCons (fK (.str (Str.ofString "fast"))) (fCons (fK (.str (Str.ofString "no way"))) fNil)))))) (fCons (fTup (fCons (fK (.int 0)) (fCons (fVar 2) (fCons (fTup (fCons (fK (.int 0)) (fCons (fK (.int 1)) fNil))) (fCons (fK .non) (fCons (fK (.str (Str.ofString "no way"))) fNil)))))) fNil)))))
    (fSeq (fExt 3 (fL (fLst (fCons (fTup (fCons (fK (.int 0)) (fCons (fVar 2) (fCons (fTup (fCons (fK (.int 1)) (fCons (fK (.int 1)) fNil))) (fCons (fTup (fCons (fK (.str (Str.ofString "even"))) fNil)) (fCons (fK (.str (Str.ofString "no way"))) fNil)))))) fNil))))
    (fSeq (fExt 3 (fL (fLst (fCons (fTup (fCons (fK (.int 1)) (fCons (fK .non) (fCons (fTup (fCons (fNeg (fK (.int 1))) (fCons (fK (.int 2)) fNil))) (fCons (fK .non) (fCons (fK (.str (Str.ofString "no number"))) fNil)))))) (fCons (fTup (fCons (fK (.int 1)) (fCons (fK .non) (fCons (fK .non) (fCons (fK .non) (fCons (fK (.str (Str.ofString "no number"))) fNil)))))) fNil)))))
    (fSeq (fExt 3 (fL (fLst (fCons (fTup (fCons (fK (.int 1)) (fCons (fK .non) (fCons (fTup (fCons (fK (.int 0)) (fCons (fK (.int 2)) fNil))) (fCons (fK .non) (fCons (fK (.str (Str.ofString "no number"))) fNil)))))) fNil))))
    (fRet (fBin eqD (fL (fLc [4] (.nm 4) (fIt true (fVar 3)) (fTest (fBin neD (fCallR 5 F_u_law_do_r (fConsA (fBin ixD (fVar 4) (fK (.int 0))) (fConsA (fVar 1) (fConsA (fBin ixD (fVar 4) (fK (.int 1))) (fConsA (fBin ixD (fVar 4) (fK (.int 2))) (fConsA (fBin ixD (fVar 4) (fK (.int 3))) fNil)))))) (fBin ixD (fVar 4) (fK (.int 4))))) (fVar 4))) (fL (fLst fNil)))))))))))))
noncomputable def F_u_law_refuses : List Ob → List D → R D := runR B_u_law_refuses 5
noncomputable def B_law : Rho → R Fl := (fSeq (fAsg (.nm 1) (fCall 2 F_u_law_book (fCons (fVar 0) (fCons (fK (.int 10)) fNil))))
    (fSeq (fAsg (.nm 2) (fBin ixD (fBin ixD (fWk (fVar 1)) (fCall 3 F_u_law_pick (fCons (fVar 0) (fCons (fK (.int 1)) (fCons (fCallB lenD (fConsB (fWk (fVar 1)) fNil)) fNil))))) (fK (.int 0))))
    (fSeq (fParXX [4, 5] (fConsX (fXm (fMake (Str.ofString "Mover") 3 F_Mover_o_u__init_u_ (fConsA (fWk (fVar 1)) (fConsA (fVar 2) fNil)))) (fConsX (fXm (fMake (Str.ofString "Mover") 3 F_Mover_o_u__init_u_ (fConsA (fWk (fVar 1)) (fConsA (fVar 2) fNil)))) (fXX (fun _ => .ok [])))))
    (fSeq (fAsg (.tp [(.nm 6), (.nm 7), (.nm 8), (.nm 9), (.nm 10)]) (fTup (fCons (fL (fLst (fCons (fTup (fCons (fVar 2) (fCons (fTup (fCons (fK (.int 1)) (fCons (fK (.int 1)) fNil))) fNil))) fNil))) (fCons (fTup (fCons (fK (.int 0)) (fCons (fK (.int 1)) fNil))) (fCons (fTup (fCons (fK (.int 0)) (fCons (fK (.int 1)) fNil))) (fCons (fTup (fCons (fK (.int 0)) (fCons (fK (.int 1)) fNil))) (fCons (fK (.str (Str.ofString "even"))) fNil)))))))
    (fSeq (fFor (.nm 3) (fRg rangeD1 (fCons (fBin addD (fK (.int 2)) (fCall 3 F_u_law_pick (fCons (fVar 0) (fCons (fK (.int 2)) (fCons (fK (.int 9)) fNil))))) fNil)) (fSeq (fAsg (.nm 11) (fBin addD (fK (.int 100)) (fBin mulD (fK (.int 12)) (fVar 3))))
    (fSeq (fAsg (.nm 12) (fCall 3 F_u_law_led (fCons (fVar 6) (fCons (fL (fLst (fCons (fTup (fCons (fVar 2) (fCons (fTup (fCons (fK (.int 1)) (fCons (fK (.int 1)) fNil))) fNil))) fNil))) (fCons (fCall 3 F_u_law_eased (fCons (fVar 10) (fCons (fCall 2 F_u_law_less (fCons (fVar 7) (fCons (fVar 8) fNil))) (fCons (fVar 9) fNil)))) fNil)))))
    (fSeq (fAsg (.nm 13) (fCall 2 F_u_law_less (fCons (fCall 1 F_u_law_sum (fCons (fL (fLst (fCons (fVar 8) (fCons (fVar 9) fNil)))) fNil)) (fCons (fVar 7) fNil))))
    (fSeq (fAsg (.nm 14) (fL (fLst (fCons (fMethR (Str.ofString "Mover") (Str.ofString "shares") 1 F_Mover_o_shares (fVar 4) fNil) (fCons (fMethR (Str.ofString "Mover") (Str.ofString "time") 1 F_Mover_o_time (fVar 4) fNil) (fCons (fMethR (Str.ofString "Mover") (Str.ofString "goal") 1 F_Mover_o_goal (fVar 4) fNil) (fCons (fMethR (Str.ofString "Mover") (Str.ofString "left") 1 F_Mover_o_left (fVar 4) fNil) (fCons (fMethR (Str.ofString "Mover") (Str.ofString "worths") 1 F_Mover_o_worths (fVar 4) fNil) fNil))))))))
    (fSeq (fIfS (fTest (fBin neD (fVar 14) (fL (fLst (fCons (fVar 12) (fCons (fVar 7) (fCons (fVar 2) (fCons (fIf (fTest (fBin gtI (fBin ixD (fVar 13) (fK (.int 0))) (fK (.int 0)))) (fVar 13) (fTup (fCons (fK (.int 0)) (fCons (fK (.int 1)) fNil)))) (fCons (fCall 2 F_u_law_worths (fCons (fVar 1) (fCons (fVar 12) fNil))) fNil))))))))) (fRet (fK (.bl false))) fNx)
    (fSeq (fIfS (fOr (fTest (fBin neD (fMethR (Str.ofString "Mover") (Str.ofString "shares") 1 F_Mover_o_shares (fVar 5) fNil) (fVar 12))) (fOr (fTest (fBin neD (fMethR (Str.ofString "Mover") (Str.ofString "time") 1 F_Mover_o_time (fVar 5) fNil) (fVar 7))) (fNot (fTest (fCall 2 F_are_shares (fCons (fWk (fVar 1)) (fCons (fVar 12) fNil))))))) (fRet (fK (.bl false))) fNx)
    (fSeq (fIfS (fOr (fAnd (fTest (fBin leD (fBin ixD (fVar 13) (fK (.int 0))) (fK (.int 0)))) (fTest (fBin neD (fVar 12) (fL (fLst (fCons (fTup (fCons (fVar 2) (fCons (fTup (fCons (fK (.int 1)) (fCons (fK (.int 1)) fNil))) fNil))) fNil)))))) (fNot (fTest (fCallR 2 F_u_law_refuses (fConsA (fWk (fVar 1)) (fConsA (fVar 4) fNil)))))) (fRet (fK (.bl false))) fNx)
    (fIfS (fTest (fBin eqD (fCall 3 F_u_law_pick (fCons (fVar 0) (fCons (fVar 11) (fCons (fK (.int 3)) fNil)))) (fK (.int 0)))) (fSeq (fAsg (.nm 15) (fCall 3 F_u_law_call (fCons (fVar 0) (fCons (fBin addD (fVar 11) (fK (.int 1))) (fCons (fWk (fVar 1)) fNil)))))
    (fSeq (fPar 6 8 (fCons (fVar 12) (fCons (fVar 7) fNil)))
    (fSeq (fAsg (.tp [(.nm 2), (.nm 9), (.nm 10)]) (fVar 15))
    (fIfX (fTestX (fBinX neD (fLX (fLcM [20] (.nm 20) (fIt false (fTupO (fConsA (fVar 4) (fConsA (fVar 5) fNil)))) (fCallM 5 F_u_law_do (fConsA (fK (.int 0)) (fConsA (fVar 20) (fConsA (fVar 2) (fConsA (fVar 9) (fConsA (fVar 10) fNil)))))))) (fXe (fL (fLst (fCons (fK .non) (fCons (fK .non) fNil))))))) (fRet (fK (.bl false))) fNx)))) (fSeq (fAsg (.nm 16) (fCall 2 F_u_law_time (fCons (fVar 0) (fCons (fBin addD (fVar 11) (fK (.int 1))) fNil))))
    (fSeq (fAsg (.nm 7) (fCall 1 F_u_law_sum (fCons (fL (fLst (fCons (fVar 7) (fCons (fVar 16) fNil)))) fNil)))
    (fSeq (fAsg (.nm 17) (fCall 2 F_u_law_low (fCons (fBin mulD (fBin ixD (fVar 16) (fK (.int 0))) (fCall 3 F_u_law_pick (fCons (fVar 0) (fCons (fBin addD (fVar 11) (fK (.int 5))) (fCons (fK (.int 4)) fNil))))) (fCons (fBin mulD (fBin ixD (fVar 16) (fK (.int 1))) (fK (.int 3))) fNil))))
    (fSeq (fAsgX 18 (fLX (fSzX (fConsAX (fXm (fCallM 5 F_u_law_do (fConsA (fK (.int 1)) (fConsA (fVar 4) (fConsA (fK .non) (fConsA (fVar 16) (fConsA (fK .non) fNil))))))) (fConsAX (fXm (fCallM 5 F_u_law_do (fConsA (fK (.int 1)) (fConsA (fVar 5) (fConsA (fK .non) (fConsA (fVar 17) (fConsA (fK .non) fNil))))))) fNilX)))))
    (fIfX (fTestX (fBinX neD (fBinX addD (fXe (fVar 18)) (fLX (fSzX (fConsAX (fXm (fCallM 5 F_u_law_do (fConsA (fK (.int 1)) (fConsA (fVar 5) (fConsA (fK .non) (fConsA (fCall 2 F_u_law_less (fCons (fVar 16) (fCons (fVar 17) fNil))) (fConsA (fK .non) fNil))))))) fNilX)))) (fXe (fBin mulD (fL (fLst (fCons (fK .non) fNil))) (fK (.int 3)))))) (fRet (fK (.bl false))) fNx))))))))))))))
    (fSeq (fIfS (fTest (fBin neD (fL (fLc [19] (.nm 19) (fIt true (fTup (fCons (fVar 2) (fCons (fK .non) fNil)))) (fun _ => .ok true) (fCallR 5 F_u_law_do_r (fConsA (fK (.int 2)) (fConsA (fK .non) (fConsA (fVar 19) (fConsA (fK .non) (fConsA (fK .non) fNil)))))))) (fBin mulD (fL (fLst (fCons (fK (.str (Str.ofString "no book"))) fNil))) (fK (.int 2))))) (fRet (fK (.bl false))) fNx)
    (fRet (fBin eqD (fL (fLc [19] (.nm 19) (fIt true (fTup (fCons (fK (.str (Str.ofString "none"))) (fCons (fK .non) (fCons (fTup (fCons (fVar 2) fNil)) fNil))))) (fun _ => .ok true) (fCallR 5 F_u_law_do_r (fConsA (fK (.int 2)) (fConsA (fWk (fVar 1)) (fConsA (fVar 19) (fConsA (fK .non) (fConsA (fK .non) fNil)))))))) (fBin mulD (fL (fLst (fCons (fK (.str (Str.ofString "no stand"))) fNil))) (fK (.int 3)))))))))))
noncomputable def F_law : List D → R D := runO B_law 21
end PL.W50
end
section
open PySem PySem.Spec PyProof.Rows L2 PL.G
namespace PL.W50
theorem sc_is_whole : FnScope ["thing", "low", "high"] ["thing", "low", "high"] (defScope s_is_whole) := ⟨rfl, rfl, rfl, by decide +kernel, rfl, by decide +kernel, by decide +kernel⟩
theorem ok_is_whole {P : Program} {w : World} {K : PySem.W.Frag} {mg : Str → Option Value} {base : Heap} {f : Addr} {fd : FuncData} (F : FunD K (Str.ofString "is_whole") (Str.ofString "is_whole") (defArgs s_is_whole) (defBody s_is_whole) (defScope s_is_whole) [] [] f fd) (hm : mg (Str.ofString "is_whole") = some (.ref f)) (zb : Bts mg) : Fn P w K mg base 1 (Str.ofString "is_whole") 3 F_is_whole :=
  fn_def (N := ["thing", "low", "high"]) (ps := ["thing", "low", "high"]) (k := 0) (fb := B_is_whole) F hm sc_is_whole (fun _ _ _ _ _ _ us hl => match us, hl with | [_, _, _], _ => rfl) (fun cdv A outer s H E C =>
    (sss_one (ss_ret (ev_and (ev_isi "int" (by decide) (by rfl) zb.isinstance (by rfl) zb.int (by decide +kernel) (ev_var 0)) (ev_and (ev_not (ev_isi "bool" (by decide) (by rfl) zb.isinstance (by rfl) zb.bool (by decide +kernel) (ev_var 0))) (ev_one (ev_chain op_leD ops_leD op_leD ops_leD (ev_var 1) (ev_var 0) (ev_var 2))))))))
theorem sc_greatest_in : FnScope ["one", "other"] ["one", "other"] (defScope s_greatest_in) := ⟨rfl, rfl, rfl, by decide +kernel, rfl, by decide +kernel, by decide +kernel⟩
theorem ok_greatest_in {P : Program} {w : World} {K : PySem.W.Frag} {mg : Str → Option Value} {base : Heap} {f : Addr} {fd : FuncData} (F : FunD K (Str.ofString "greatest_in") (Str.ofString "greatest_in") (defArgs s_greatest_in) (defBody s_greatest_in) (defScope s_greatest_in) [] [] f fd) (hm : mg (Str.ofString "greatest_in") = some (.ref f)) (zb : Bts mg) : Fn P w K mg base 1 (Str.ofString "greatest_in") 2 F_greatest_in :=
  fn_def (N := ["one", "other"]) (ps := ["one", "other"]) (k := 0) (fb := B_greatest_in) F hm sc_greatest_in (fun _ _ _ _ _ _ us hl => match us, hl with | [_, _], _ => rfl) (fun cdv A outer s H E C =>
    (sss_cons (ss_while m_greatest_in C.po (et_cmp (op_neD C.hr.units) ops_neD (ev_var 1) ev_int (nomark _)) (sss_one (ss_par 0 1 C.hc C.nd (ea_cons (ev_var 1) (ea_cons (ev_op op_modN ops_modI (ev_var 0) (ev_var 1)) ea_nil)))))
    (sss_one (ss_ret (ev_callB call_abs cs_absD (by rfl) zb.abs (by decide +kernel) (eb_cons (ev_var 0) eb_nil))))))
theorem sc_is_less : FnScope ["one", "other"] ["one", "other"] (defScope s_is_less) := ⟨rfl, rfl, rfl, by decide +kernel, rfl, by decide +kernel, by decide +kernel⟩
theorem ok_is_less {P : Program} {w : World} {K : PySem.W.Frag} {mg : Str → Option Value} {base : Heap} {f : Addr} {fd : FuncData} (F : FunD K (Str.ofString "is_less") (Str.ofString "is_less") (defArgs s_is_less) (defBody s_is_less) (defScope s_is_less) [] [] f fd) (hm : mg (Str.ofString "is_less") = some (.ref f)) (zb : Bts mg) : Fn P w K mg base 1 (Str.ofString "is_less") 2 F_is_less :=
  fn_def (N := ["one", "other"]) (ps := ["one", "other"]) (k := 0) (fb := B_is_less) F hm sc_is_less (fun _ _ _ _ _ _ us hl => match us, hl with | [_, _], _ => rfl) (fun cdv A outer s H E C =>
    (sss_one (ss_ret (ev_cmp op_ltD ops_ltD (ev_op op_mulD ops_mulD (ev_ix (ev_var 0) ev_int) (ev_ix (ev_var 1) ev_int)) (ev_op op_mulD ops_mulD (ev_ix (ev_var 1) ev_int) (ev_ix (ev_var 0) ev_int)) (nomark _)))))
theorem sc_is_name : FnScope ["thing", "sign"] ["thing"] (defScope s_is_name) := ⟨rfl, rfl, rfl, by decide +kernel, rfl, by decide +kernel, by decide +kernel⟩
theorem ok_is_name {P : Program} {w : World} {K : PySem.W.Frag} {mg : Str → Option Value} {base : Heap} {f : Addr} {fd : FuncData} (F : FunD K (Str.ofString "is_name") (Str.ofString "is_name") (defArgs s_is_name) (defBody s_is_name) (defScope s_is_name) [] [] f fd) (hm : mg (Str.ofString "is_name") = some (.ref f)) (zb : Bts mg) (c_LONGEST : Kon K mg (Str.ofString "LONGEST") d_LONGEST) (c_SMALL : Kon K mg (Str.ofString "SMALL") d_SMALL) : Fn P w K mg base 1 (Str.ofString "is_name") 1 F_is_name :=
  fn_def (N := ["thing", "sign"]) (ps := ["thing"]) (k := 0) (fb := B_is_name) F hm sc_is_name (fun _ _ _ _ _ _ us hl => match us, hl with | [_], _ => rfl) (fun cdv A outer s H E C =>
    (sss_one (ss_ret (ev_and (ev_isi "str" (by decide) (by rfl) zb.isinstance (by rfl) zb.str (by decide +kernel) (ev_var 0)) (ev_and (ev_chain op_leD ops_leD op_leD ops_leD ev_int (ev_callB call_lenD cs_lenD (by rfl) zb.len (by decide +kernel) (eb_cons (ev_var 0) eb_nil)) (ev_glob c_LONGEST (by rfl))) (ev_one (ev_callB (cr_all C.hc) cs_all (by rfl) zb.all (by decide +kernel) (eb_cons (EN.ev (en_lc [("sign", 1)] C.hc C.nd (ei_seq (ev_var 0)) (blkOk_by (by kernel_rfl)) (fun _ _ _ _ _ => (eg_name 1 C.nd)) (fun _ _ _ _ _ => ets_nil) (fun _ _ _ _ _ => (ev_cmp op_inG ops_inG (ev_var 1) (ev_glob c_SMALL (by rfl)) (by rfl))))) eb_nil))))))))
theorem sc_stand_in : FnScope ["book", "name", "one", "stand"] ["book", "name"] (defScope s_stand_in) := ⟨rfl, rfl, rfl, by decide +kernel, rfl, by decide +kernel, by decide +kernel⟩
theorem ok_stand_in {P : Program} {w : World} {K : PySem.W.Frag} {mg : Str → Option Value} {base : Heap} {f : Addr} {fd : FuncData} (F : FunD K (Str.ofString "stand_in") (Str.ofString "stand_in") (defArgs s_stand_in) (defBody s_stand_in) (defScope s_stand_in) [] [] f fd) (hm : mg (Str.ofString "stand_in") = some (.ref f)) (zb : Bts mg) : Fn P w K mg base 1 (Str.ofString "stand_in") 2 F_stand_in :=
  fn_def (N := ["book", "name", "one", "stand"]) (ps := ["book", "name"]) (k := 0) (fb := B_stand_in) F hm sc_stand_in (fun _ _ _ _ _ _ us hl => match us, hl with | [_, _], _ => rfl) (fun cdv A outer s H E C =>
    (sss_one (ss_ret (ev_ix (EN.ev (en_lc [("one", 2), ("stand", 3)] C.hc C.nd (ei_seq (ev_var 0)) (blkOk_by (by kernel_rfl)) (fun _ _ _ _ _ => (eg_tup C.hc (egs_cons (eg_name 2 C.nd) (egs_cons (eg_name 3 C.nd) egs_nil)))) (fun _ _ _ _ _ => (ets_one (et_cmp (op_eqD C.hr.units) ops_eqD (ev_var 2) (ev_var 1) (nomark _)))) (fun _ _ _ _ _ => (ev_var 3)))) ev_int))))
theorem sc_is_way : FnScope ["thing"] ["thing"] (defScope s_is_way) := ⟨rfl, rfl, rfl, by decide +kernel, rfl, by decide +kernel, by decide +kernel⟩
theorem ok_is_way {P : Program} {w : World} {K : PySem.W.Frag} {mg : Str → Option Value} {base : Heap} {f : Addr} {fd : FuncData} (F : FunD K (Str.ofString "is_way") (Str.ofString "is_way") (defArgs s_is_way) (defBody s_is_way) (defScope s_is_way) [] [] f fd) (hm : mg (Str.ofString "is_way") = some (.ref f)) (zb : Bts mg) (c_WAYS : Kon K mg (Str.ofString "WAYS") d_WAYS) : Fn P w K mg base 1 (Str.ofString "is_way") 1 F_is_way :=
  fn_def (N := ["thing"]) (ps := ["thing"]) (k := 0) (fb := B_is_way) F hm sc_is_way (fun _ _ _ _ _ _ us hl => match us, hl with | [_], _ => rfl) (fun cdv A outer s H E C =>
    (sss_one (ss_ret (ev_and (ev_isi "str" (by decide) (by rfl) zb.isinstance (by rfl) zb.str (by decide +kernel) (ev_var 0)) (ev_one (ev_cmp op_inG ops_inG (ev_var 0) (ev_glob c_WAYS (by rfl)) (by rfl)))))))
theorem sc_Mover_o_time : FnScope ["self"] ["self"] (defScope s_Mover_o_time) := ⟨rfl, rfl, rfl, by decide +kernel, rfl, by decide +kernel, by decide +kernel⟩
theorem ok_Mover_o_time {P : Program} {w : World} {K : PySem.W.Frag} {mg : Str → Option Value} {base : Heap} {f : Addr} {fd : FuncData} (F : FunD K (Str.ofString "time") (Str.ofString "Mover.time") (defArgs s_Mover_o_time) (defBody s_Mover_o_time) (defScope s_Mover_o_time) [] [] f fd) (hm : Meth K (He.ga K (Str.ofString "Mover")) (Str.ofString "time") f) (zb : Bts mg) (k_Mover : Cls K (He.ga K (Str.ofString "Mover"))) (n_Mover_now : NoAttr K (He.ga K (Str.ofString "Mover")) (Str.ofString "now")) : FnRm P w K mg base 1 (Str.ofString "Mover") (Str.ofString "time") 1 F_Mover_o_time :=
  mtR_def (N := ["self"]) (ps := ["self"]) (k := 0) (fb := B_Mover_o_time) F hm sc_Mover_o_time (fun _ _ _ _ _ _ us hl => match us, hl with | [_], _ => rfl) (fun cdv A outer s H E C =>
    (sss_one (ss_ret (ev_fld k_Mover n_Mover_now (ev_var 0)))))
theorem sc_Mover_o_goal : FnScope ["self"] ["self"] (defScope s_Mover_o_goal) := ⟨rfl, rfl, rfl, by decide +kernel, rfl, by decide +kernel, by decide +kernel⟩
theorem ok_Mover_o_goal {P : Program} {w : World} {K : PySem.W.Frag} {mg : Str → Option Value} {base : Heap} {f : Addr} {fd : FuncData} (F : FunD K (Str.ofString "goal") (Str.ofString "Mover.goal") (defArgs s_Mover_o_goal) (defBody s_Mover_o_goal) (defScope s_Mover_o_goal) [] [] f fd) (hm : Meth K (He.ga K (Str.ofString "Mover")) (Str.ofString "goal") f) (zb : Bts mg) (k_Mover : Cls K (He.ga K (Str.ofString "Mover"))) (n_Mover_end : NoAttr K (He.ga K (Str.ofString "Mover")) (Str.ofString "end")) : FnRm P w K mg base 1 (Str.ofString "Mover") (Str.ofString "goal") 1 F_Mover_o_goal :=
  mtR_def (N := ["self"]) (ps := ["self"]) (k := 0) (fb := B_Mover_o_goal) F hm sc_Mover_o_goal (fun _ _ _ _ _ _ us hl => match us, hl with | [_], _ => rfl) (fun cdv A outer s H E C =>
    (sss_one (ss_ret (ev_fld k_Mover n_Mover_end (ev_var 0)))))
theorem sc_u_law_cell : FnScope ["script", "k"] ["script", "k"] (defScope s_u_law_cell) := ⟨rfl, rfl, rfl, by decide +kernel, rfl, by decide +kernel, by decide +kernel⟩
theorem ok_u_law_cell {P : Program} {w : World} {K : PySem.W.Frag} {mg : Str → Option Value} {base : Heap} {f : Addr} {fd : FuncData} (F : FunD K (Str.ofString "_law_cell") (Str.ofString "_law_cell") (defArgs s_u_law_cell) (defBody s_u_law_cell) (defScope s_u_law_cell) [] [] f fd) (hm : mg (Str.ofString "_law_cell") = some (.ref f)) (zb : Bts mg) : Fn P w K mg base 1 (Str.ofString "_law_cell") 2 F_u_law_cell :=
  fn_def (N := ["script", "k"]) (ps := ["script", "k"]) (k := 0) (fb := B_u_law_cell) F hm sc_u_law_cell (fun _ _ _ _ _ _ us hl => match us, hl with | [_, _], _ => rfl) (fun cdv A outer s H E C =>
    (sss_cons (ss_if (et_cmp op_ltD ops_ltD (ev_var 1) (ev_callB call_lenD cs_lenD (by rfl) zb.len (by decide +kernel) (eb_cons (ev_var 0) eb_nil)) (nomark _)) (sss_one (ss_ret (ev_ix (ev_var 0) (ev_var 1)))) sss_nil)
    (sss_cons (ss_if (et_cmp (op_eqD C.hr.units) ops_eqD (ev_var 0) (EN.ev (en_lst ea_nil)) (nomark _)) (sss_one (ss_ret ev_int)) sss_nil)
    (sss_one (ss_ret (ev_op op_addD ops_addD (ev_op op_mulD ops_mulD (ev_ix (ev_var 0) (ev_op op_modN ops_modI (ev_var 1) (ev_callB call_lenD cs_lenD (by rfl) zb.len (by decide +kernel) (eb_cons (ev_var 0) eb_nil)))) ev_int) (ev_var 1)))))))
theorem sc_u_law_word : FnScope ["kept", "kinds", "words"] ["kept"] (defScope s_u_law_word) := ⟨rfl, rfl, rfl, by decide +kernel, rfl, by decide +kernel, by decide +kernel⟩
theorem ok_u_law_word {P : Program} {w : World} {K : PySem.W.Frag} {mg : Str → Option Value} {base : Heap} {f : Addr} {fd : FuncData} (F : FunD K (Str.ofString "_law_word") (Str.ofString "_law_word") (defArgs s_u_law_word) (defBody s_u_law_word) (defScope s_u_law_word) [] [] f fd) (hm : mg (Str.ofString "_law_word") = some (.ref f)) (zb : Bts mg) (zx : ErrX K mg ecs exs) : Fn P w K mg base 1 (Str.ofString "_law_word") 1 F_u_law_word :=
  fn_def (N := ["kept", "kinds", "words"]) (ps := ["kept"]) (k := 0) (fb := B_u_law_word) F hm sc_u_law_word (fun _ _ _ _ _ _ us hl => match us, hl with | [_], _ => rfl) (fun cdv A outer s H E C =>
    (sss_cons (ss_setN 1 C.nd (en_lst (ea_cons (ev_isE ecs (by rfl) zb.isinstance (by rfl) (zx.gx _ (by decide +kernel)) (zx.is_ _ (by decide +kernel)) (ev_var 0)) (ea_cons (ev_isE ecs (by rfl) zb.isinstance (by rfl) (zx.gx _ (by decide +kernel)) (zx.is_ _ (by decide +kernel)) (ev_var 0)) (ea_cons (ev_isE ecs (by rfl) zb.isinstance (by rfl) (zx.gx _ (by decide +kernel)) (zx.is_ _ (by decide +kernel)) (ev_var 0)) ea_nil)))))
    (sss_cons (ss_ext 1 (EN.ev (en_lst (ea_cons (ev_isE ecs (by rfl) zb.isinstance (by rfl) (zx.gx _ (by decide +kernel)) (zx.is_ _ (by decide +kernel)) (ev_var 0)) ea_nil))))
    (sss_cons (ss_ext 1 (EN.ev (en_lst (ea_cons (ev_isE ecs (by rfl) zb.isinstance (by rfl) (zx.gx _ (by decide +kernel)) (zx.is_ _ (by decide +kernel)) (ev_var 0)) (ea_cons (ev_isE ecs (by rfl) zb.isinstance (by rfl) (zx.gx _ (by decide +kernel)) (zx.is_ _ (by decide +kernel)) (ev_var 0)) (ea_cons (ev_isE ecs (by rfl) zb.isinstance (by rfl) (zx.gx _ (by decide +kernel)) (zx.is_ _ (by decide +kernel)) (ev_var 0)) ea_nil))))))
    (sss_cons (ss_ext 1 (EN.ev (en_lst (ea_cons (ev_isE ecs (by rfl) zb.isinstance (by rfl) (zx.gx _ (by decide +kernel)) (zx.is_ _ (by decide +kernel)) (ev_var 0)) (ea_cons (ev_isE ecs (by rfl) zb.isinstance (by rfl) (zx.gx _ (by decide +kernel)) (zx.is_ _ (by decide +kernel)) (ev_var 0)) (ea_cons (ev_isE ecs (by rfl) zb.isinstance (by rfl) (zx.gx _ (by decide +kernel)) (zx.is_ _ (by decide +kernel)) (ev_var 0)) ea_nil))))))
    (sss_cons (ss_if (EW.et (ew_or (et_cmp (op_neD C.hr.units) ops_neD (ev_cnt (ev_var 1)) ev_int (nomark _)) (ew_or (et_not (et_val (ev_isEB ecs (by rfl) zb.isinstance (by rfl) zx.ve (by decide +kernel) zx.iv (ev_var 0)))) (ew_or1 (et_not (et_val (ev_isE ecs (by rfl) zb.isinstance (by rfl) (zx.gx _ (by decide +kernel)) (zx.is_ _ (by decide +kernel)) (ev_var 0)))))))) (sss_one (ss_ret ev_str)) sss_nil)
    (sss_cons (ss_setN 2 C.nd (en_lst (ea_cons ev_str (ea_cons ev_str (ea_cons ev_str (ea_cons ev_str (ea_cons ev_str (ea_cons ev_str (ea_cons ev_str ea_nil)))))))))
    (sss_cons (ss_ext 2 (EN.ev (en_lst (ea_cons ev_str (ea_cons ev_str (ea_cons ev_str ea_nil))))))
    (sss_one (ss_ret (ev_ix (ev_var 2) (ev_idx (ev_var 1)))))))))))))
theorem sc_u_law_low : FnScope ["up", "down", "one", "other"] ["up", "down"] (defScope s_u_law_low) := ⟨rfl, rfl, rfl, by decide +kernel, rfl, by decide +kernel, by decide +kernel⟩
theorem ok_u_law_low {P : Program} {w : World} {K : PySem.W.Frag} {mg : Str → Option Value} {base : Heap} {f : Addr} {fd : FuncData} (F : FunD K (Str.ofString "_law_low") (Str.ofString "_law_low") (defArgs s_u_law_low) (defBody s_u_law_low) (defScope s_u_law_low) [] [] f fd) (hm : mg (Str.ofString "_law_low") = some (.ref f)) (zb : Bts mg) : Fn P w K mg base 1 (Str.ofString "_law_low") 2 F_u_law_low :=
  fn_def (N := ["up", "down", "one", "other"]) (ps := ["up", "down"]) (k := 0) (fb := B_u_law_low) F hm sc_u_law_low (fun _ _ _ _ _ _ us hl => match us, hl with | [_, _], _ => rfl) (fun cdv A outer s H E C =>
    (sss_cons (ss_par 2 3 C.hc C.nd (ea_cons (ev_callB call_abs cs_absD (by rfl) zb.abs (by decide +kernel) (eb_cons (ev_var 0) eb_nil)) (ea_cons (ev_callB call_abs cs_absD (by rfl) zb.abs (by decide +kernel) (eb_cons (ev_var 1) eb_nil)) ea_nil)))
    (sss_cons (ss_while m_u_law_low C.po (et_cmp (op_neD C.hr.units) ops_neD (ev_var 3) ev_int (nomark _)) (sss_one (ss_par 2 3 C.hc C.nd (ea_cons (ev_var 3) (ea_cons (ev_op op_modN ops_modI (ev_var 2) (ev_var 3)) ea_nil)))))
    (sss_one (ss_ret (ev_if (et_cmp op_gt ops_gtI (ev_var 1) ev_int (nomark _)) (ev_tup (ea_cons (ev_op op_fdivW ops_fdivI (ev_var 0) (ev_var 2)) (ea_cons (ev_op op_fdivW ops_fdivI (ev_var 1) (ev_var 2)) ea_nil))) (ev_tup (ea_cons (ev_op op_sub ops_subI ev_int (ev_op op_fdivW ops_fdivI (ev_var 0) (ev_var 2))) (ea_cons (ev_op op_sub ops_subI ev_int (ev_op op_fdivW ops_fdivI (ev_var 1) (ev_var 2))) ea_nil)))))))))
theorem sc_u_law_names : FnScope ["book", "name", "stand"] ["book"] (defScope s_u_law_names) := ⟨rfl, rfl, rfl, by decide +kernel, rfl, by decide +kernel, by decide +kernel⟩
theorem ok_u_law_names {P : Program} {w : World} {K : PySem.W.Frag} {mg : Str → Option Value} {base : Heap} {f : Addr} {fd : FuncData} (F : FunD K (Str.ofString "_law_names") (Str.ofString "_law_names") (defArgs s_u_law_names) (defBody s_u_law_names) (defScope s_u_law_names) [] [] f fd) (hm : mg (Str.ofString "_law_names") = some (.ref f)) (zb : Bts mg) : Fn P w K mg base 1 (Str.ofString "_law_names") 1 F_u_law_names :=
  fn_def (N := ["book", "name", "stand"]) (ps := ["book"]) (k := 0) (fb := B_u_law_names) F hm sc_u_law_names (fun _ _ _ _ _ _ us hl => match us, hl with | [_], _ => rfl) (fun cdv A outer s H E C =>
    (sss_one (ss_ret (EN.ev (en_lc [("name", 1), ("stand", 2)] C.hc C.nd (ei_seq (ev_var 0)) (blkOk_by (by kernel_rfl)) (fun _ _ _ _ _ => (eg_tup C.hc (egs_cons (eg_name 1 C.nd) (egs_cons (eg_name 2 C.nd) egs_nil)))) (fun _ _ _ _ _ => ets_nil) (fun _ _ _ _ _ => (ev_var 1)))))))
theorem sc_share : FnScope ["up", "down", "most"] ["up", "down"] (defScope s_share) := ⟨rfl, rfl, rfl, by decide +kernel, rfl, by decide +kernel, by decide +kernel⟩
theorem ok_share {P : Program} {w : World} {K : PySem.W.Frag} {mg : Str → Option Value} {base : Heap} {f : Addr} {fd : FuncData} (F : FunD K (Str.ofString "share") (Str.ofString "share") (defArgs s_share) (defBody s_share) (defScope s_share) [] [] f fd) (hm : mg (Str.ofString "share") = some (.ref f)) (zb : Bts mg) (f_greatest_in : Fn P w K mg base 1 (Str.ofString "greatest_in") 2 F_greatest_in) : Fn P w K mg base 2 (Str.ofString "share") 2 F_share :=
  fn_def (N := ["up", "down", "most"]) (ps := ["up", "down"]) (k := 1) (fb := B_share) F hm sc_share (fun _ _ _ _ _ _ us hl => match us, hl with | [_, _], _ => rfl) (fun cdv A outer s H E C =>
    (sss_cons (ss_set 2 C.nd (ev_call f_greatest_in C.hr C.hx (by rfl) (ea_cons (ev_var 0) (ea_cons (ev_var 1) ea_nil))))
    (sss_one (ss_ret (ev_if (et_cmp op_gt ops_gtI (ev_var 1) ev_int (nomark _)) (ev_tup (ea_cons (ev_op op_fdivW ops_fdivI (ev_var 0) (ev_var 2)) (ea_cons (ev_op op_fdivW ops_fdivI (ev_var 1) (ev_var 2)) ea_nil))) (ev_tup (ea_cons (ev_op op_sub ops_subI ev_int (ev_op op_fdivW ops_fdivI (ev_var 0) (ev_var 2))) (ea_cons (ev_op op_sub ops_subI ev_int (ev_op op_fdivW ops_fdivI (ev_var 1) (ev_var 2))) ea_nil))))))))
theorem sc_is_fraction : FnScope ["thing", "one"] ["thing"] (defScope s_is_fraction) := ⟨rfl, rfl, rfl, by decide +kernel, rfl, by decide +kernel, by decide +kernel⟩
theorem ok_is_fraction {P : Program} {w : World} {K : PySem.W.Frag} {mg : Str → Option Value} {base : Heap} {f : Addr} {fd : FuncData} (F : FunD K (Str.ofString "is_fraction") (Str.ofString "is_fraction") (defArgs s_is_fraction) (defBody s_is_fraction) (defScope s_is_fraction) [] [] f fd) (hm : mg (Str.ofString "is_fraction") = some (.ref f)) (zb : Bts mg) (f_greatest_in : Fn P w K mg base 1 (Str.ofString "greatest_in") 2 F_greatest_in) : Fn P w K mg base 2 (Str.ofString "is_fraction") 1 F_is_fraction :=
  fn_def (N := ["thing", "one"]) (ps := ["thing"]) (k := 1) (fb := B_is_fraction) F hm sc_is_fraction (fun _ _ _ _ _ _ us hl => match us, hl with | [_], _ => rfl) (fun cdv A outer s H E C =>
    (sss_cons (ss_if (EW.et (ew_or (et_not (et_val (ev_isi "tuple" (by decide) (by rfl) zb.isinstance (by rfl) zb.tuple (by decide +kernel) (ev_var 0)))) (ew_or1 (et_cmp (op_neD C.hr.units) ops_neD (ev_callB call_lenD cs_lenD (by rfl) zb.len (by decide +kernel) (eb_cons (ev_var 0) eb_nil)) ev_int (nomark _))))) (sss_one (ss_ret ev_bl)) sss_nil)
    (sss_cons (ss_if (et_not (et_val (ev_callB (cr_all C.hc) cs_all (by rfl) zb.all (by decide +kernel) (eb_cons (EN.ev (en_lc [("one", 1)] C.hc C.nd (ei_seq (ev_var 0)) (blkOk_by (by kernel_rfl)) (fun _ _ _ _ _ => (eg_name 1 C.nd)) (fun _ _ _ _ _ => ets_nil) (fun _ _ _ _ _ => (ev_and (ev_isi "int" (by decide) (by rfl) zb.isinstance (by rfl) zb.int (by decide +kernel) (ev_var 1)) (ev_one (ev_not (ev_isi "bool" (by decide) (by rfl) zb.isinstance (by rfl) zb.bool (by decide +kernel) (ev_var 1)))))))) eb_nil)))) (sss_one (ss_ret ev_bl)) sss_nil)
    (sss_one (ss_ret (ev_and (ev_cmp op_gt ops_gtI (ev_ix (ev_var 0) ev_int) ev_int (nomark _)) (ev_one (ev_cmp (op_eqD C.hr.units) ops_eqD (ev_call f_greatest_in C.hr C.hx (by rfl) (ea_cons (ev_ix (ev_var 0) ev_int) (ea_cons (ev_ix (ev_var 0) ev_int) ea_nil))) ev_int (nomark _)))))))))
theorem sc_is_stand : FnScope ["thing", "one"] ["thing"] (defScope s_is_stand) := ⟨rfl, rfl, rfl, by decide +kernel, rfl, by decide +kernel, by decide +kernel⟩
theorem ok_is_stand {P : Program} {w : World} {K : PySem.W.Frag} {mg : Str → Option Value} {base : Heap} {f : Addr} {fd : FuncData} (F : FunD K (Str.ofString "is_stand") (Str.ofString "is_stand") (defArgs s_is_stand) (defBody s_is_stand) (defScope s_is_stand) [] [] f fd) (hm : mg (Str.ofString "is_stand") = some (.ref f)) (zb : Bts mg) (c_FARTHEST : Kon K mg (Str.ofString "FARTHEST") d_FARTHEST) (f_is_whole : Fn P w K mg base 1 (Str.ofString "is_whole") 3 F_is_whole) : Fn P w K mg base 2 (Str.ofString "is_stand") 1 F_is_stand :=
  fn_def (N := ["thing", "one"]) (ps := ["thing"]) (k := 1) (fb := B_is_stand) F hm sc_is_stand (fun _ _ _ _ _ _ us hl => match us, hl with | [_], _ => rfl) (fun cdv A outer s H E C =>
    (sss_cons (ss_if (EW.et (ew_or (et_not (et_val (ev_isi "tuple" (by decide) (by rfl) zb.isinstance (by rfl) zb.tuple (by decide +kernel) (ev_var 0)))) (ew_or1 (et_not (et_chain op_leD ops_leD op_leD ops_leD ev_int (ev_callB call_lenD cs_lenD (by rfl) zb.len (by decide +kernel) (eb_cons (ev_var 0) eb_nil)) ev_int))))) (sss_one (ss_ret ev_bl)) sss_nil)
    (sss_one (ss_ret (ev_callB (cr_all C.hc) cs_all (by rfl) zb.all (by decide +kernel) (eb_cons (EN.ev (en_lc [("one", 1)] C.hc C.nd (ei_seq (ev_var 0)) (blkOk_by (by kernel_rfl)) (fun _ _ _ _ _ => (eg_name 1 C.nd)) (fun _ _ _ _ _ => ets_nil) (fun _ _ _ _ _ => (ev_call f_is_whole C.hr passZ (by rfl) (ea_cons (ev_var 1) (ea_cons (ev_op op_sub ops_subI ev_int (ev_glob c_FARTHEST (by rfl))) (ea_cons (ev_glob c_FARTHEST (by rfl)) ea_nil))))))) eb_nil))))))
theorem sc_has_name : FnScope ["book", "name", "one"] ["book", "name"] (defScope s_has_name) := ⟨rfl, rfl, rfl, by decide +kernel, rfl, by decide +kernel, by decide +kernel⟩
theorem ok_has_name {P : Program} {w : World} {K : PySem.W.Frag} {mg : Str → Option Value} {base : Heap} {f : Addr} {fd : FuncData} (F : FunD K (Str.ofString "has_name") (Str.ofString "has_name") (defArgs s_has_name) (defBody s_has_name) (defScope s_has_name) [] [] f fd) (hm : mg (Str.ofString "has_name") = some (.ref f)) (zb : Bts mg) (f_is_name : Fn P w K mg base 1 (Str.ofString "is_name") 1 F_is_name) : Fn P w K mg base 2 (Str.ofString "has_name") 2 F_has_name :=
  fn_def (N := ["book", "name", "one"]) (ps := ["book", "name"]) (k := 1) (fb := B_has_name) F hm sc_has_name (fun _ _ _ _ _ _ us hl => match us, hl with | [_, _], _ => rfl) (fun cdv A outer s H E C =>
    (sss_one (ss_ret (ev_and (ev_call f_is_name C.hr C.hx (by rfl) (ea_cons (ev_var 1) ea_nil)) (ev_one (ev_cmp op_inG ops_inG (ev_var 1) (EN.ev (en_lc [("one", 2)] C.hc C.nd (ei_seq (ev_var 0)) (blkOk_by (by kernel_rfl)) (fun _ _ _ _ _ => (eg_name 2 C.nd)) (fun _ _ _ _ _ => ets_nil) (fun _ _ _ _ _ => (ev_ix (ev_var 2) ev_int)))) (by rfl)))))))
theorem sc_u_law_pick : FnScope ["script", "k", "many", "drawn"] ["script", "k", "many"] (defScope s_u_law_pick) := ⟨rfl, rfl, rfl, by decide +kernel, rfl, by decide +kernel, by decide +kernel⟩
theorem ok_u_law_pick {P : Program} {w : World} {K : PySem.W.Frag} {mg : Str → Option Value} {base : Heap} {f : Addr} {fd : FuncData} (F : FunD K (Str.ofString "_law_pick") (Str.ofString "_law_pick") (defArgs s_u_law_pick) (defBody s_u_law_pick) (defScope s_u_law_pick) [] [] f fd) (hm : mg (Str.ofString "_law_pick") = some (.ref f)) (zb : Bts mg) (f_u_law_cell : Fn P w K mg base 1 (Str.ofString "_law_cell") 2 F_u_law_cell) : Fn P w K mg base 2 (Str.ofString "_law_pick") 3 F_u_law_pick :=
  fn_def (N := ["script", "k", "many", "drawn"]) (ps := ["script", "k", "many"]) (k := 1) (fb := B_u_law_pick) F hm sc_u_law_pick (fun _ _ _ _ _ _ us hl => match us, hl with | [_, _, _], _ => rfl) (fun cdv A outer s H E C =>
    (sss_cons (ss_set 3 C.nd (ev_op op_modN ops_modI (ev_op op_mulD ops_mulD (ev_op op_addD ops_addD (ev_call f_u_law_cell C.hr C.hx (by rfl) (ea_cons (ev_var 0) (ea_cons (ev_var 1) ea_nil))) (ev_op op_mulD ops_mulD ev_int (ev_op op_addD ops_addD (ev_var 1) ev_int))) ev_int) ev_int))
    (sss_one (ss_ret (ev_op op_modN ops_modI (ev_op op_modN ops_modI (ev_op op_addD ops_addD (ev_op op_mulD ops_mulD (ev_var 3) (ev_var 3)) (ev_op op_fdivW ops_fdivI (ev_var 3) ev_int)) ev_int) (ev_var 2))))))
theorem sc_u_law_sum : FnScope ["some", "one", "up", "down"] ["some"] (defScope s_u_law_sum) := ⟨rfl, rfl, rfl, by decide +kernel, rfl, by decide +kernel, by decide +kernel⟩
theorem ok_u_law_sum {P : Program} {w : World} {K : PySem.W.Frag} {mg : Str → Option Value} {base : Heap} {f : Addr} {fd : FuncData} (F : FunD K (Str.ofString "_law_sum") (Str.ofString "_law_sum") (defArgs s_u_law_sum) (defBody s_u_law_sum) (defScope s_u_law_sum) [] [] f fd) (hm : mg (Str.ofString "_law_sum") = some (.ref f)) (zb : Bts mg) (f_u_law_low : Fn P w K mg base 1 (Str.ofString "_law_low") 2 F_u_law_low) : Fn P w K mg base 2 (Str.ofString "_law_sum") 1 F_u_law_sum :=
  fn_def (N := ["some", "one", "up", "down"]) (ps := ["some"]) (k := 1) (fb := B_u_law_sum) F hm sc_u_law_sum (fun _ _ _ _ _ _ us hl => match us, hl with | [_], _ => rfl) (fun cdv A outer s H E C =>
    (sss_cons (ss_asg (ev_tup (ea_cons ev_int (ea_cons ev_int ea_nil))) (eg_tup C.hc (egs_cons (eg_name 2 C.nd) (egs_cons (eg_name 3 C.nd) egs_nil))))
    (sss_cons (ss_for C.po C.hc (ei_seq (ev_var 0)) (eg_name 1 C.nd) (sss_one (ss_par 2 3 C.hc C.nd (ea_cons (ev_op op_addD ops_addD (ev_op op_mulD ops_mulD (ev_var 2) (ev_ix (ev_var 1) ev_int)) (ev_op op_mulD ops_mulD (ev_ix (ev_var 1) ev_int) (ev_var 3))) (ea_cons (ev_op op_mulD ops_mulD (ev_var 3) (ev_ix (ev_var 1) ev_int)) ea_nil)))))
    (sss_one (ss_ret (ev_call f_u_law_low C.hr C.hx (by rfl) (ea_cons (ev_var 2) (ea_cons (ev_var 3) ea_nil))))))))
theorem sc_u_law_eased : FnScope ["way", "gone", "long", "part"] ["way", "gone", "long"] (defScope s_u_law_eased) := ⟨rfl, rfl, rfl, by decide +kernel, rfl, by decide +kernel, by decide +kernel⟩
theorem ok_u_law_eased {P : Program} {w : World} {K : PySem.W.Frag} {mg : Str → Option Value} {base : Heap} {f : Addr} {fd : FuncData} (F : FunD K (Str.ofString "_law_eased") (Str.ofString "_law_eased") (defArgs s_u_law_eased) (defBody s_u_law_eased) (defScope s_u_law_eased) [] [] f fd) (hm : mg (Str.ofString "_law_eased") = some (.ref f)) (zb : Bts mg) (f_u_law_low : Fn P w K mg base 1 (Str.ofString "_law_low") 2 F_u_law_low) : Fn P w K mg base 2 (Str.ofString "_law_eased") 3 F_u_law_eased :=
  fn_def (N := ["way", "gone", "long", "part"]) (ps := ["way", "gone", "long"]) (k := 1) (fb := B_u_law_eased) F hm sc_u_law_eased (fun _ _ _ _ _ _ us hl => match us, hl with | [_, _, _], _ => rfl) (fun cdv A outer s H E C =>
    (sss_cons (ss_if (et_cmp op_ge ops_geI (ev_op op_mulD ops_mulD (ev_ix (ev_var 1) ev_int) (ev_ix (ev_var 2) ev_int)) (ev_op op_mulD ops_mulD (ev_ix (ev_var 2) ev_int) (ev_ix (ev_var 1) ev_int)) (nomark _)) (sss_one (ss_ret (ev_tup (ea_cons ev_int (ea_cons ev_int ea_nil))))) sss_nil)
    (sss_cons (ss_set 3 C.nd (ev_call f_u_law_low C.hr C.hx (by rfl) (ea_cons (ev_op op_mulD ops_mulD (ev_ix (ev_var 1) ev_int) (ev_ix (ev_var 2) ev_int)) (ea_cons (ev_op op_mulD ops_mulD (ev_ix (ev_var 1) ev_int) (ev_ix (ev_var 2) ev_int)) ea_nil))))
    (sss_cons (ss_if (et_cmp (op_eqD C.hr.units) ops_eqD (ev_var 0) ev_str (nomark _)) (sss_one (ss_ret (ev_var 3))) sss_nil)
    (sss_one (ss_ret (ev_call f_u_law_low C.hr C.hx (by rfl) (ea_cons (ev_op op_mulD ops_mulD (ev_op op_mulD ops_mulD (ev_ix (ev_var 3) ev_int) (ev_ix (ev_var 3) ev_int)) (ev_op op_sub ops_subI (ev_op op_mulD ops_mulD ev_int (ev_ix (ev_var 3) ev_int)) (ev_op op_mulD ops_mulD ev_int (ev_ix (ev_var 3) ev_int)))) (ea_cons (ev_op op_powN ops_powI (ev_ix (ev_var 3) ev_int) ev_int) ea_nil)))))))))
theorem sc_u_law_less : FnScope ["one", "other"] ["one", "other"] (defScope s_u_law_less) := ⟨rfl, rfl, rfl, by decide +kernel, rfl, by decide +kernel, by decide +kernel⟩
theorem ok_u_law_less {P : Program} {w : World} {K : PySem.W.Frag} {mg : Str → Option Value} {base : Heap} {f : Addr} {fd : FuncData} (F : FunD K (Str.ofString "_law_less") (Str.ofString "_law_less") (defArgs s_u_law_less) (defBody s_u_law_less) (defScope s_u_law_less) [] [] f fd) (hm : mg (Str.ofString "_law_less") = some (.ref f)) (zb : Bts mg) (f_u_law_low : Fn P w K mg base 1 (Str.ofString "_law_low") 2 F_u_law_low) : Fn P w K mg base 2 (Str.ofString "_law_less") 2 F_u_law_less :=
  fn_def (N := ["one", "other"]) (ps := ["one", "other"]) (k := 1) (fb := B_u_law_less) F hm sc_u_law_less (fun _ _ _ _ _ _ us hl => match us, hl with | [_, _], _ => rfl) (fun cdv A outer s H E C =>
    (sss_one (ss_ret (ev_call f_u_law_low C.hr C.hx (by rfl) (ea_cons (ev_op op_sub ops_subI (ev_op op_mulD ops_mulD (ev_ix (ev_var 0) ev_int) (ev_ix (ev_var 1) ev_int)) (ev_op op_mulD ops_mulD (ev_ix (ev_var 1) ev_int) (ev_ix (ev_var 0) ev_int))) (ea_cons (ev_op op_mulD ops_mulD (ev_ix (ev_var 0) ev_int) (ev_ix (ev_var 1) ev_int)) ea_nil))))))
theorem sc_plus : FnScope ["one", "other"] ["one", "other"] (defScope s_plus) := ⟨rfl, rfl, rfl, by decide +kernel, rfl, by decide +kernel, by decide +kernel⟩
theorem ok_plus {P : Program} {w : World} {K : PySem.W.Frag} {mg : Str → Option Value} {base : Heap} {f : Addr} {fd : FuncData} (F : FunD K (Str.ofString "plus") (Str.ofString "plus") (defArgs s_plus) (defBody s_plus) (defScope s_plus) [] [] f fd) (hm : mg (Str.ofString "plus") = some (.ref f)) (zb : Bts mg) (f_share : Fn P w K mg base 2 (Str.ofString "share") 2 F_share) : Fn P w K mg base 3 (Str.ofString "plus") 2 F_plus :=
  fn_def (N := ["one", "other"]) (ps := ["one", "other"]) (k := 2) (fb := B_plus) F hm sc_plus (fun _ _ _ _ _ _ us hl => match us, hl with | [_, _], _ => rfl) (fun cdv A outer s H E C =>
    (sss_one (ss_ret (ev_call f_share C.hr C.hx (by rfl) (ea_cons (ev_op op_addD ops_addD (ev_op op_mulD ops_mulD (ev_ix (ev_var 0) ev_int) (ev_ix (ev_var 1) ev_int)) (ev_op op_mulD ops_mulD (ev_ix (ev_var 1) ev_int) (ev_ix (ev_var 0) ev_int))) (ea_cons (ev_op op_mulD ops_mulD (ev_ix (ev_var 0) ev_int) (ev_ix (ev_var 1) ev_int)) ea_nil))))))
theorem sc_minus : FnScope ["one", "other"] ["one", "other"] (defScope s_minus) := ⟨rfl, rfl, rfl, by decide +kernel, rfl, by decide +kernel, by decide +kernel⟩
theorem ok_minus {P : Program} {w : World} {K : PySem.W.Frag} {mg : Str → Option Value} {base : Heap} {f : Addr} {fd : FuncData} (F : FunD K (Str.ofString "minus") (Str.ofString "minus") (defArgs s_minus) (defBody s_minus) (defScope s_minus) [] [] f fd) (hm : mg (Str.ofString "minus") = some (.ref f)) (zb : Bts mg) (f_share : Fn P w K mg base 2 (Str.ofString "share") 2 F_share) : Fn P w K mg base 3 (Str.ofString "minus") 2 F_minus :=
  fn_def (N := ["one", "other"]) (ps := ["one", "other"]) (k := 2) (fb := B_minus) F hm sc_minus (fun _ _ _ _ _ _ us hl => match us, hl with | [_, _], _ => rfl) (fun cdv A outer s H E C =>
    (sss_one (ss_ret (ev_call f_share C.hr C.hx (by rfl) (ea_cons (ev_op op_sub ops_subI (ev_op op_mulD ops_mulD (ev_ix (ev_var 0) ev_int) (ev_ix (ev_var 1) ev_int)) (ev_op op_mulD ops_mulD (ev_ix (ev_var 1) ev_int) (ev_ix (ev_var 0) ev_int))) (ea_cons (ev_op op_mulD ops_mulD (ev_ix (ev_var 0) ev_int) (ev_ix (ev_var 1) ev_int)) ea_nil))))))
theorem sc_times : FnScope ["one", "other"] ["one", "other"] (defScope s_times) := ⟨rfl, rfl, rfl, by decide +kernel, rfl, by decide +kernel, by decide +kernel⟩
theorem ok_times {P : Program} {w : World} {K : PySem.W.Frag} {mg : Str → Option Value} {base : Heap} {f : Addr} {fd : FuncData} (F : FunD K (Str.ofString "times") (Str.ofString "times") (defArgs s_times) (defBody s_times) (defScope s_times) [] [] f fd) (hm : mg (Str.ofString "times") = some (.ref f)) (zb : Bts mg) (f_share : Fn P w K mg base 2 (Str.ofString "share") 2 F_share) : Fn P w K mg base 3 (Str.ofString "times") 2 F_times :=
  fn_def (N := ["one", "other"]) (ps := ["one", "other"]) (k := 2) (fb := B_times) F hm sc_times (fun _ _ _ _ _ _ us hl => match us, hl with | [_, _], _ => rfl) (fun cdv A outer s H E C =>
    (sss_one (ss_ret (ev_call f_share C.hr C.hx (by rfl) (ea_cons (ev_op op_mulD ops_mulD (ev_ix (ev_var 0) ev_int) (ev_ix (ev_var 1) ev_int)) (ea_cons (ev_op op_mulD ops_mulD (ev_ix (ev_var 0) ev_int) (ev_ix (ev_var 1) ev_int)) ea_nil))))))
theorem sc_parted : FnScope ["one", "other"] ["one", "other"] (defScope s_parted) := ⟨rfl, rfl, rfl, by decide +kernel, rfl, by decide +kernel, by decide +kernel⟩
theorem ok_parted {P : Program} {w : World} {K : PySem.W.Frag} {mg : Str → Option Value} {base : Heap} {f : Addr} {fd : FuncData} (F : FunD K (Str.ofString "parted") (Str.ofString "parted") (defArgs s_parted) (defBody s_parted) (defScope s_parted) [] [] f fd) (hm : mg (Str.ofString "parted") = some (.ref f)) (zb : Bts mg) (f_share : Fn P w K mg base 2 (Str.ofString "share") 2 F_share) : Fn P w K mg base 3 (Str.ofString "parted") 2 F_parted :=
  fn_def (N := ["one", "other"]) (ps := ["one", "other"]) (k := 2) (fb := B_parted) F hm sc_parted (fun _ _ _ _ _ _ us hl => match us, hl with | [_, _], _ => rfl) (fun cdv A outer s H E C =>
    (sss_one (ss_ret (ev_call f_share C.hr C.hx (by rfl) (ea_cons (ev_op op_mulD ops_mulD (ev_ix (ev_var 0) ev_int) (ev_ix (ev_var 1) ev_int)) (ea_cons (ev_op op_mulD ops_mulD (ev_ix (ev_var 0) ev_int) (ev_ix (ev_var 1) ev_int)) ea_nil))))))
theorem sc_is_book : FnScope ["thing", "one", "other"] ["thing"] (defScope s_is_book) := ⟨rfl, rfl, rfl, by decide +kernel, rfl, by decide +kernel, by decide +kernel⟩
theorem ok_is_book {P : Program} {w : World} {K : PySem.W.Frag} {mg : Str → Option Value} {base : Heap} {f : Addr} {fd : FuncData} (F : FunD K (Str.ofString "is_book") (Str.ofString "is_book") (defArgs s_is_book) (defBody s_is_book) (defScope s_is_book) [] [] f fd) (hm : mg (Str.ofString "is_book") = some (.ref f)) (zb : Bts mg) (f_is_name : Fn P w K mg base 1 (Str.ofString "is_name") 1 F_is_name) (f_is_stand : Fn P w K mg base 2 (Str.ofString "is_stand") 1 F_is_stand) : Fn P w K mg base 3 (Str.ofString "is_book") 1 F_is_book :=
  fn_def (N := ["thing", "one", "other"]) (ps := ["thing"]) (k := 2) (fb := B_is_book) F hm sc_is_book (fun _ _ _ _ _ _ us hl => match us, hl with | [_], _ => rfl) (fun cdv A outer s H E C =>
    (sss_cons (ss_if (EW.et (ew_or (et_not (et_val (ev_isi "tuple" (by decide) (by rfl) zb.isinstance (by rfl) zb.tuple (by decide +kernel) (ev_var 0)))) (ew_or1 (et_not (et_chain op_leD ops_leD op_leD ops_leD ev_int (ev_callB call_lenD cs_lenD (by rfl) zb.len (by decide +kernel) (eb_cons (ev_var 0) eb_nil)) ev_int))))) (sss_one (ss_ret ev_bl)) sss_nil)
    (sss_cons (ss_if (et_not (et_val (ev_callB (cr_all C.hc) cs_all (by rfl) zb.all (by decide +kernel) (eb_cons (EN.ev (en_lc [("one", 1)] C.hc C.nd (ei_seq (ev_var 0)) (blkOk_by (by kernel_rfl)) (fun _ _ _ _ _ => (eg_name 1 C.nd)) (fun _ _ _ _ _ => ets_nil) (fun _ _ _ _ _ => (ev_and (ev_isi "tuple" (by decide) (by rfl) zb.isinstance (by rfl) zb.tuple (by decide +kernel) (ev_var 1)) (ev_and (ev_cmp (op_eqD C.hr.units) ops_eqD (ev_callB call_lenD cs_lenD (by rfl) zb.len (by decide +kernel) (eb_cons (ev_var 1) eb_nil)) ev_int (nomark _)) (ev_and (ev_call f_is_name C.hr passZ (by rfl) (ea_cons (ev_ix (ev_var 1) ev_int) ea_nil)) (ev_one (ev_call f_is_stand C.hr passZ (by rfl) (ea_cons (ev_ix (ev_var 1) ev_int) ea_nil))))))))) eb_nil)))) (sss_one (ss_ret ev_bl)) sss_nil)
    (sss_cons (ss_if (et_val (ev_callB (cr_any C.hc) cs_any (by rfl) zb.any (by decide +kernel) (eb_cons (EN.ev (en_lc [("one", 1)] C.hc C.nd (ei_seq (ev_var 0)) (blkOk_by (by kernel_rfl)) (fun _ _ _ _ _ => (eg_name 1 C.nd)) (fun _ _ _ _ _ => ets_nil) (fun _ _ _ _ _ => (ev_cmp (op_neD C.hr.units) ops_neD (ev_callB call_lenD cs_lenD (by rfl) zb.len (by decide +kernel) (eb_cons (ev_ix (ev_var 1) ev_int) eb_nil)) (ev_callB call_lenD cs_lenD (by rfl) zb.len (by decide +kernel) (eb_cons (ev_ix (ev_ix (ev_var 0) ev_int) ev_int) eb_nil)) (nomark _))))) eb_nil))) (sss_one (ss_ret ev_bl)) sss_nil)
    (sss_one (ss_ret (ev_callB (cr_all C.hc) cs_all (by rfl) zb.all (by decide +kernel) (eb_cons (EN.ev (en_lc [("one", 1), ("other", 2)] C.hc C.nd (ei_zip (by rfl) zb.zip (eb_cons (ev_var 0) (eb_cons (ev_slice (ev_var 0) (eo_some ev_int) eo_none) eb_nil))) (blkOk_by (by kernel_rfl)) (fun _ _ _ _ _ => (eg_tup C.hc (egs_cons (eg_name 1 C.nd) (egs_cons (eg_name 2 C.nd) egs_nil)))) (fun _ _ _ _ _ => ets_nil) (fun _ _ _ _ _ => (ev_cmp op_ltD ops_ltD (ev_ix (ev_var 1) ev_int) (ev_ix (ev_var 2) ev_int) (nomark _))))) eb_nil))))))))
theorem sc_look_name : FnScope ["book", "name"] ["book", "name"] (defScope s_look_name) := ⟨rfl, rfl, rfl, by decide +kernel, rfl, by decide +kernel, by decide +kernel⟩
theorem ok_look_name {P : Program} {w : World} {K : PySem.W.Frag} {mg : Str → Option Value} {base : Heap} {f : Addr} {fd : FuncData} (F : FunD K (Str.ofString "look_name") (Str.ofString "look_name") (defArgs s_look_name) (defBody s_look_name) (defScope s_look_name) [] [] f fd) (hm : mg (Str.ofString "look_name") = some (.ref f)) (zb : Bts mg) (e_NoStand : ErrC K mg (Str.ofString "NoStand")) (f_has_name : Fn P w K mg base 2 (Str.ofString "has_name") 2 F_has_name) : Fn P w K mg base 3 (Str.ofString "look_name") 2 F_look_name :=
  fn_def (N := ["book", "name"]) (ps := ["book", "name"]) (k := 2) (fb := B_look_name) F hm sc_look_name (fun _ _ _ _ _ _ us hl => match us, hl with | [_, _], _ => rfl) (fun cdv A outer s H E C =>
    (sss_one (ss_if (et_not (et_val (ev_call f_has_name C.hr C.hx (by rfl) (ea_cons (ev_var 0) (ea_cons (ev_var 1) ea_nil))))) (sss_one (ss_raise e_NoStand C.hc C.tk (by rfl))) sss_nil)))
theorem sc_is_time : FnScope ["thing"] ["thing"] (defScope s_is_time) := ⟨rfl, rfl, rfl, by decide +kernel, rfl, by decide +kernel, by decide +kernel⟩
theorem ok_is_time {P : Program} {w : World} {K : PySem.W.Frag} {mg : Str → Option Value} {base : Heap} {f : Addr} {fd : FuncData} (F : FunD K (Str.ofString "is_time") (Str.ofString "is_time") (defArgs s_is_time) (defBody s_is_time) (defScope s_is_time) [] [] f fd) (hm : mg (Str.ofString "is_time") = some (.ref f)) (zb : Bts mg) (f_is_fraction : Fn P w K mg base 2 (Str.ofString "is_fraction") 1 F_is_fraction) : Fn P w K mg base 3 (Str.ofString "is_time") 1 F_is_time :=
  fn_def (N := ["thing"]) (ps := ["thing"]) (k := 2) (fb := B_is_time) F hm sc_is_time (fun _ _ _ _ _ _ us hl => match us, hl with | [_], _ => rfl) (fun cdv A outer s H E C =>
    (sss_one (ss_ret (ev_and (ev_call f_is_fraction C.hr C.hx (by rfl) (ea_cons (ev_var 0) ea_nil)) (ev_one (ev_cmp op_ge ops_geI (ev_ix (ev_var 0) ev_int) ev_int (nomark _)))))))
theorem sc_u_law_book : FnScope ["script", "at", "joints", "some", "names", "made", "k", "name", "top", "here", "j"] ["script", "at"] (defScope s_u_law_book) := ⟨rfl, rfl, rfl, by decide +kernel, rfl, by decide +kernel, by decide +kernel⟩
theorem ok_u_law_book {P : Program} {w : World} {K : PySem.W.Frag} {mg : Str → Option Value} {base : Heap} {f : Addr} {fd : FuncData} (F : FunD K (Str.ofString "_law_book") (Str.ofString "_law_book") (defArgs s_u_law_book) (defBody s_u_law_book) (defScope s_u_law_book) [] [] f fd) (hm : mg (Str.ofString "_law_book") = some (.ref f)) (zb : Bts mg) (f_u_law_pick : Fn P w K mg base 2 (Str.ofString "_law_pick") 3 F_u_law_pick) : Fn P w K mg base 3 (Str.ofString "_law_book") 2 F_u_law_book :=
  fn_def (N := ["script", "at", "joints", "some", "names", "made", "k", "name", "top", "here", "j"]) (ps := ["script", "at"]) (k := 2) (fb := B_u_law_book) F hm sc_u_law_book (fun _ _ _ _ _ _ us hl => match us, hl with | [_, _], _ => rfl) (fun cdv A outer s H E C =>
    (sss_cons (ss_set 2 C.nd (ev_op op_addD ops_addD ev_int (ev_call f_u_law_pick C.hr C.hx (by rfl) (ea_cons (ev_var 0) (ea_cons (ev_var 1) (ea_cons ev_int ea_nil))))))
    (sss_cons (ss_set 3 C.nd (EN.ev (en_lst (ea_cons ev_str (ea_cons ev_str (ea_cons ev_str (ea_cons ev_str (ea_cons ev_str (ea_cons ev_str ea_nil)))))))))
    (sss_cons (ss_setLc 4 [("k", 6), ("name", 7)] C.hc C.nd (ei_enum (by rfl) zb.enumerate (eb_cons (ev_var 3) eb_nil)) (blkOk_by (by kernel_rfl)) (fun _ _ _ _ _ => (eg_tup C.hc (egs_cons (eg_name 6 C.nd) (egs_cons (eg_name 7 C.nd) egs_nil)))) (fun _ _ _ _ _ => (ets_one (et_cmp op_gt ops_gtI (ev_call f_u_law_pick C.hr passZ (by rfl) (ea_cons (ev_var 0) (ea_cons (ev_op op_addD ops_addD (ev_op op_addD ops_addD (ev_var 1) ev_int) (ev_var 6)) (ea_cons ev_int ea_nil)))) ev_int (nomark _)))) (fun _ _ _ _ _ => (ev_var 7)))
    (sss_cons (ss_setN 5 C.nd (en_lst ea_nil))
    (sss_cons (ss_for C.po C.hc (ei_enum (by rfl) zb.enumerate (eb_cons (ev_if (et_cmp (op_neD C.hr.units) ops_neD (ev_var 4) (EN.ev (en_lst ea_nil)) (nomark _)) (ev_var 4) (EN.ev (en_lst (ea_cons ev_str ea_nil)))) eb_nil)) (eg_tup C.hc (egs_cons (eg_name 6 C.nd) (egs_cons (eg_name 7 C.nd) egs_nil))) (sss_cons (ss_set 8 C.nd (ev_ix (EN.ev (en_lst (ea_cons ev_int (ea_cons ev_int (ea_cons ev_int ea_nil))))) (ev_call f_u_law_pick C.hr C.hx (by rfl) (ea_cons (ev_var 0) (ea_cons (ev_op op_addD ops_addD (ev_op op_addD ops_addD (ev_var 1) ev_int) (ev_var 6)) (ea_cons ev_int ea_nil))))))
    (sss_cons (ss_set 9 C.nd (ev_op op_addD ops_addD (ev_op op_addD ops_addD (ev_var 1) ev_int) (ev_op op_mulD ops_mulD ev_int (ev_var 6))))
    (sss_one (ss_app 5 (ev_tup (ea_cons (ev_var 7) (ea_cons (ev_callTy call_tuple_of cs_tupleD (by rfl) zb.tuple (by decide +kernel) (eb_cons (EN.ev (en_lc [("j", 10)] C.hc C.nd (ei_range1 (by rfl) zb.range (ea_cons (ev_var 2) ea_nil)) (blkOk_by (by kernel_rfl)) (fun _ _ _ _ _ => (eg_name 10 C.nd)) (fun _ _ _ _ _ => ets_nil) (fun _ _ _ _ _ => (ev_op op_addD ops_addD (ev_op op_sub ops_subI (ev_call f_u_law_pick C.hr passZ (by rfl) (ea_cons (ev_var 0) (ea_cons (ev_op op_addD ops_addD (ev_var 9) (ev_var 10)) (ea_cons (ev_op op_sub ops_subI (ev_op op_mulD ops_mulD ev_int (ev_var 8)) ev_int) ea_nil)))) (ev_var 8)) ev_int)))) eb_nil)) ea_nil))))))))
    (sss_one (ss_ret (ev_callTy call_tupleF cs_tupleN (by rfl) zb.tuple (by decide +kernel) (eb_cons (ev_var 5) eb_nil))))))))))
theorem sc_u_law_shares : FnScope ["script", "at", "book", "weights", "whole", "k", "name", "many"] ["script", "at", "book"] (defScope s_u_law_shares) := ⟨rfl, rfl, rfl, by decide +kernel, rfl, by decide +kernel, by decide +kernel⟩
theorem ok_u_law_shares {P : Program} {w : World} {K : PySem.W.Frag} {mg : Str → Option Value} {base : Heap} {f : Addr} {fd : FuncData} (F : FunD K (Str.ofString "_law_shares") (Str.ofString "_law_shares") (defArgs s_u_law_shares) (defBody s_u_law_shares) (defScope s_u_law_shares) [] [] f fd) (hm : mg (Str.ofString "_law_shares") = some (.ref f)) (zb : Bts mg) (f_u_law_low : Fn P w K mg base 1 (Str.ofString "_law_low") 2 F_u_law_low) (f_u_law_names : Fn P w K mg base 1 (Str.ofString "_law_names") 1 F_u_law_names) (f_u_law_pick : Fn P w K mg base 2 (Str.ofString "_law_pick") 3 F_u_law_pick) : Fn P w K mg base 3 (Str.ofString "_law_shares") 3 F_u_law_shares :=
  fn_def (N := ["script", "at", "book", "weights", "whole", "k", "name", "many"]) (ps := ["script", "at", "book"]) (k := 2) (fb := B_u_law_shares) F hm sc_u_law_shares (fun _ _ _ _ _ _ us hl => match us, hl with | [_, _, _], _ => rfl) (fun cdv A outer s H E C =>
    (sss_cons (ss_setLc 3 [("k", 5), ("name", 6)] C.hc C.nd (ei_enum (by rfl) zb.enumerate (eb_cons (ev_call f_u_law_names C.hr C.hx (by rfl) (ea_cons (ev_var 2) ea_nil)) eb_nil)) (blkOk_by (by kernel_rfl)) (fun _ _ _ _ _ => (eg_tup C.hc (egs_cons (eg_name 5 C.nd) (egs_cons (eg_name 6 C.nd) egs_nil)))) (fun _ _ _ _ _ => ets_nil) (fun _ _ _ _ _ => (ev_tup (ea_cons (ev_var 6) (ea_cons (ev_call f_u_law_pick C.hr passZ (by rfl) (ea_cons (ev_var 0) (ea_cons (ev_op op_addD ops_addD (ev_var 1) (ev_var 5)) (ea_cons ev_int ea_nil)))) ea_nil)))))
    (sss_cons (ss_set 4 C.nd (ev_callB (cr_sum C.hc) cs_sum (by rfl) zb.sum (by decide +kernel) (eb_cons (EN.ev (en_lc [("name", 6), ("many", 7)] C.hc C.nd (ei_seq (ev_var 3)) (blkOk_by (by kernel_rfl)) (fun _ _ _ _ _ => (eg_tup C.hc (egs_cons (eg_name 6 C.nd) (egs_cons (eg_name 7 C.nd) egs_nil)))) (fun _ _ _ _ _ => ets_nil) (fun _ _ _ _ _ => (ev_var 7)))) eb_nil)))
    (sss_cons (ss_if (et_cmp (op_eqD C.hr.units) ops_eqD (ev_var 4) ev_int (nomark _)) (sss_one (ss_ret (EN.ev (en_lst (ea_cons (ev_tup (ea_cons (ev_ix (ev_call f_u_law_names C.hr C.hx (by rfl) (ea_cons (ev_var 2) ea_nil)) (ev_call f_u_law_pick C.hr C.hx (by rfl) (ea_cons (ev_var 0) (ea_cons (ev_op op_addD ops_addD (ev_var 1) ev_int) (ea_cons (ev_callB call_lenD cs_lenD (by rfl) zb.len (by decide +kernel) (eb_cons (ev_var 2) eb_nil)) ea_nil))))) (ea_cons (ev_tup (ea_cons ev_int (ea_cons ev_int ea_nil))) ea_nil))) ea_nil))))) sss_nil)
    (sss_one (ss_ret (EN.ev (en_lc [("name", 6), ("many", 7)] C.hc C.nd (ei_seq (ev_var 3)) (blkOk_by (by kernel_rfl)) (fun _ _ _ _ _ => (eg_tup C.hc (egs_cons (eg_name 6 C.nd) (egs_cons (eg_name 7 C.nd) egs_nil)))) (fun _ _ _ _ _ => (ets_one (et_cmp op_gt ops_gtI (ev_var 7) ev_int (nomark _)))) (fun _ _ _ _ _ => (ev_tup (ea_cons (ev_var 6) (ea_cons (ev_call f_u_law_low C.hr passZ (by rfl) (ea_cons (ev_var 7) (ea_cons (ev_var 4) ea_nil))) ea_nil))))))))))))
theorem sc_u_law_gathered : FnScope ["pairs", "made", "name", "whole", "one", "part"] ["pairs"] (defScope s_u_law_gathered) := ⟨rfl, rfl, rfl, by decide +kernel, rfl, by decide +kernel, by decide +kernel⟩
theorem ok_u_law_gathered {P : Program} {w : World} {K : PySem.W.Frag} {mg : Str → Option Value} {base : Heap} {f : Addr} {fd : FuncData} (F : FunD K (Str.ofString "_law_gathered") (Str.ofString "_law_gathered") (defArgs s_u_law_gathered) (defBody s_u_law_gathered) (defScope s_u_law_gathered) [] [] f fd) (hm : mg (Str.ofString "_law_gathered") = some (.ref f)) (zb : Bts mg) (f_u_law_sum : Fn P w K mg base 2 (Str.ofString "_law_sum") 1 F_u_law_sum) : Fn P w K mg base 3 (Str.ofString "_law_gathered") 1 F_u_law_gathered :=
  fn_def (N := ["pairs", "made", "name", "whole", "one", "part"]) (ps := ["pairs"]) (k := 2) (fb := B_u_law_gathered) F hm sc_u_law_gathered (fun _ _ _ _ _ _ us hl => match us, hl with | [_], _ => rfl) (fun cdv A outer s H E C =>
    (sss_cons (ss_setN 1 C.nd (en_lst ea_nil))
    (sss_cons (ss_for C.po C.hc (ei_seq (EN.ev (en_sortSet C.hc (by rfl) zb.sorted (by rfl) zb.set (EN.ev (en_lc [("one", 4), ("part", 5)] C.hc C.nd (ei_seq (ev_var 0)) (blkOk_by (by kernel_rfl)) (fun _ _ _ _ _ => (eg_tup C.hc (egs_cons (eg_name 4 C.nd) (egs_cons (eg_name 5 C.nd) egs_nil)))) (fun _ _ _ _ _ => ets_nil) (fun _ _ _ _ _ => (ev_var 4))))))) (eg_name 2 C.nd) (sss_cons (ss_set 3 C.nd (ev_call f_u_law_sum C.hr C.hx (by rfl) (ea_cons (EN.ev (en_lc [("one", 4), ("part", 5)] C.hc C.nd (ei_seq (ev_var 0)) (blkOk_by (by kernel_rfl)) (fun _ _ _ _ _ => (eg_tup C.hc (egs_cons (eg_name 4 C.nd) (egs_cons (eg_name 5 C.nd) egs_nil)))) (fun _ _ _ _ _ => (ets_one (et_cmp (op_eqD C.hr.units) ops_eqD (ev_var 4) (ev_var 2) (nomark _)))) (fun _ _ _ _ _ => (ev_var 5)))) ea_nil)))
    (sss_one (ss_ext 1 (ev_if (et_cmp (op_neD C.hr.units) ops_neD (ev_var 3) (ev_tup (ea_cons ev_int (ea_cons ev_int ea_nil))) (nomark _)) (EN.ev (en_lst (ea_cons (ev_tup (ea_cons (ev_var 2) (ea_cons (ev_var 3) ea_nil))) ea_nil))) (EN.ev (en_lst ea_nil)))))))
    (sss_one (ss_ret (ev_var 1))))))
theorem sc_u_law_worths : FnScope ["book", "shares", "joint", "stands", "made", "name", "part"] ["book", "shares"] (defScope s_u_law_worths) := ⟨rfl, rfl, rfl, by decide +kernel, rfl, by decide +kernel, by decide +kernel⟩
theorem ok_u_law_worths {P : Program} {w : World} {K : PySem.W.Frag} {mg : Str → Option Value} {base : Heap} {f : Addr} {fd : FuncData} (F : FunD K (Str.ofString "_law_worths") (Str.ofString "_law_worths") (defArgs s_u_law_worths) (defBody s_u_law_worths) (defScope s_u_law_worths) [] [] f fd) (hm : mg (Str.ofString "_law_worths") = some (.ref f)) (zb : Bts mg) (f_u_law_sum : Fn P w K mg base 2 (Str.ofString "_law_sum") 1 F_u_law_sum) : Fn P w K mg base 3 (Str.ofString "_law_worths") 2 F_u_law_worths :=
  fn_def (N := ["book", "shares", "joint", "stands", "made", "name", "part"]) (ps := ["book", "shares"]) (k := 2) (fb := B_u_law_worths) F hm sc_u_law_worths (fun _ _ _ _ _ _ us hl => match us, hl with | [_, _], _ => rfl) (fun cdv A outer s H E C =>
    (sss_cons (ss_asgX C.hc (ex_im (ev_callTy (call_dictA C.hc) cs_dictD (by rfl) zb.dict (by decide +kernel) (eb_cons (ev_var 0) eb_nil)) (ex_ol (en_lst ea_nil) ex_nil)) (gx_cons 3 C.nd (gx_cons 4 C.nd gx_nil)))
    (sss_cons (ss_for C.po C.hc (ei_range1 (by rfl) zb.range (ea_cons (ev_callB call_lenD cs_lenD (by rfl) zb.len (by decide +kernel) (eb_cons (ev_ix (ev_ix (ev_wk (ev_var 0)) ev_int) ev_int) eb_nil)) ea_nil)) (eg_name 2 C.nd) (sss_one (ss_app 4 (ev_call f_u_law_sum C.hr C.hx (by rfl) (ea_cons (EN.ev (en_lc [("name", 5), ("part", 6)] C.hc C.nd (ei_seq (ev_var 1)) (blkOk_by (by kernel_rfl)) (fun _ _ _ _ _ => (eg_tup C.hc (egs_cons (eg_name 5 C.nd) (egs_cons (eg_name 6 C.nd) egs_nil)))) (fun _ _ _ _ _ => ets_nil) (fun _ _ _ _ _ => (ev_tup (ea_cons (ev_op op_mulD ops_mulD (ev_ix (ev_var 6) ev_int) (ev_ix (ev_dget (units1 C.hr) (ev_dvar (ev_var 3)) (ev_var 5)) (ev_var 2))) (ea_cons (ev_ix (ev_var 6) ev_int) ea_nil)))))) ea_nil)))))
    (sss_one (ss_ret (ev_callTy call_tuple_of cs_tupleD (by rfl) zb.tuple (by decide +kernel) (eb_cons (ev_var 4) eb_nil)))))))
theorem sc_u_law_time : FnScope ["script", "at", "down"] ["script", "at"] (defScope s_u_law_time) := ⟨rfl, rfl, rfl, by decide +kernel, rfl, by decide +kernel, by decide +kernel⟩
theorem ok_u_law_time {P : Program} {w : World} {K : PySem.W.Frag} {mg : Str → Option Value} {base : Heap} {f : Addr} {fd : FuncData} (F : FunD K (Str.ofString "_law_time") (Str.ofString "_law_time") (defArgs s_u_law_time) (defBody s_u_law_time) (defScope s_u_law_time) [] [] f fd) (hm : mg (Str.ofString "_law_time") = some (.ref f)) (zb : Bts mg) (f_u_law_low : Fn P w K mg base 1 (Str.ofString "_law_low") 2 F_u_law_low) (f_u_law_pick : Fn P w K mg base 2 (Str.ofString "_law_pick") 3 F_u_law_pick) : Fn P w K mg base 3 (Str.ofString "_law_time") 2 F_u_law_time :=
  fn_def (N := ["script", "at", "down"]) (ps := ["script", "at"]) (k := 2) (fb := B_u_law_time) F hm sc_u_law_time (fun _ _ _ _ _ _ us hl => match us, hl with | [_, _], _ => rfl) (fun cdv A outer s H E C =>
    (sss_cons (ss_set 2 C.nd (ev_ix (EN.ev (en_lst (ea_cons ev_int (ea_cons ev_int (ea_cons ev_int (ea_cons ev_int ea_nil)))))) (ev_call f_u_law_pick C.hr C.hx (by rfl) (ea_cons (ev_var 0) (ea_cons (ev_var 1) (ea_cons ev_int ea_nil))))))
    (sss_one (ss_ret (ev_call f_u_law_low C.hr C.hx (by rfl) (ea_cons (ev_call f_u_law_pick C.hr C.hx (by rfl) (ea_cons (ev_var 0) (ea_cons (ev_op op_addD ops_addD (ev_var 1) ev_int) (ea_cons (ev_ix (EN.ev (en_lst (ea_cons ev_int (ea_cons ev_int (ea_cons ev_int ea_nil))))) (ev_call f_u_law_pick C.hr C.hx (by rfl) (ea_cons (ev_var 0) (ea_cons (ev_op op_addD ops_addD (ev_var 1) ev_int) (ea_cons ev_int ea_nil))))) ea_nil)))) (ea_cons (ev_var 2) ea_nil)))))))
theorem sc_u_law_call : FnScope ["script", "at", "book", "most", "long", "name", "way"] ["script", "at", "book"] (defScope s_u_law_call) := ⟨rfl, rfl, rfl, by decide +kernel, rfl, by decide +kernel, by decide +kernel⟩
theorem ok_u_law_call {P : Program} {w : World} {K : PySem.W.Frag} {mg : Str → Option Value} {base : Heap} {f : Addr} {fd : FuncData} (F : FunD K (Str.ofString "_law_call") (Str.ofString "_law_call") (defArgs s_u_law_call) (defBody s_u_law_call) (defScope s_u_law_call) [] [] f fd) (hm : mg (Str.ofString "_law_call") = some (.ref f)) (zb : Bts mg) (f_u_law_low : Fn P w K mg base 1 (Str.ofString "_law_low") 2 F_u_law_low) (f_u_law_pick : Fn P w K mg base 2 (Str.ofString "_law_pick") 3 F_u_law_pick) : Fn P w K mg base 3 (Str.ofString "_law_call") 3 F_u_law_call :=
  fn_def (N := ["script", "at", "book", "most", "long", "name", "way"]) (ps := ["script", "at", "book"]) (k := 2) (fb := B_u_law_call) F hm sc_u_law_call (fun _ _ _ _ _ _ us hl => match us, hl with | [_, _, _], _ => rfl) (fun cdv A outer s H E C =>
    (sss_cons (ss_par 5 6 C.hc C.nd (ea_cons (ev_ix (ev_ix (ev_var 2) (ev_call f_u_law_pick C.hr C.hx (by rfl) (ea_cons (ev_var 0) (ea_cons (ev_var 1) (ea_cons (ev_callB call_lenD cs_lenD (by rfl) zb.len (by decide +kernel) (eb_cons (ev_var 2) eb_nil)) ea_nil))))) ev_int) (ea_cons (ev_ix (EN.ev (en_lst (ea_cons ev_str (ea_cons ev_str ea_nil)))) (ev_call f_u_law_pick C.hr C.hx (by rfl) (ea_cons (ev_var 0) (ea_cons (ev_op op_addD ops_addD (ev_var 1) ev_int) (ea_cons ev_int ea_nil))))) ea_nil)))
    (sss_cons (ss_set 3 C.nd (ev_ix (EN.ev (en_lst (ea_cons ev_int (ea_cons ev_int (ea_cons ev_int (ea_cons ev_int ea_nil)))))) (ev_call f_u_law_pick C.hr C.hx (by rfl) (ea_cons (ev_var 0) (ea_cons (ev_op op_addD ops_addD (ev_var 1) ev_int) (ea_cons ev_int ea_nil))))))
    (sss_cons (ss_set 4 C.nd (ev_call f_u_law_low C.hr C.hx (by rfl) (ea_cons (ev_call f_u_law_pick C.hr C.hx (by rfl) (ea_cons (ev_var 0) (ea_cons (ev_op op_addD ops_addD (ev_var 1) ev_int) (ea_cons (ev_var 3) ea_nil)))) (ea_cons (ev_op op_addD ops_addD ev_int (ev_call f_u_law_pick C.hr C.hx (by rfl) (ea_cons (ev_var 0) (ea_cons (ev_op op_addD ops_addD (ev_var 1) ev_int) (ea_cons ev_int ea_nil))))) ea_nil))))
    (sss_one (ss_ret (ev_tup (ea_cons (ev_var 5) (ea_cons (ev_var 4) (ea_cons (ev_var 6) ea_nil))))))))))
theorem sc_summed : FnScope ["some", "made", "one"] ["some"] (defScope s_summed) := ⟨rfl, rfl, rfl, by decide +kernel, rfl, by decide +kernel, by decide +kernel⟩
theorem ok_summed {P : Program} {w : World} {K : PySem.W.Frag} {mg : Str → Option Value} {base : Heap} {f : Addr} {fd : FuncData} (F : FunD K (Str.ofString "summed") (Str.ofString "summed") (defArgs s_summed) (defBody s_summed) (defScope s_summed) [] [] f fd) (hm : mg (Str.ofString "summed") = some (.ref f)) (zb : Bts mg) (c_NOUGHT : Kon K mg (Str.ofString "NOUGHT") d_NOUGHT) (f_plus : Fn P w K mg base 3 (Str.ofString "plus") 2 F_plus) : Fn P w K mg base 4 (Str.ofString "summed") 1 F_summed :=
  fn_def (N := ["some", "made", "one"]) (ps := ["some"]) (k := 3) (fb := B_summed) F hm sc_summed (fun _ _ _ _ _ _ us hl => match us, hl with | [_], _ => rfl) (fun cdv A outer s H E C =>
    (sss_cons (ss_set 1 C.nd (ev_glob c_NOUGHT (by rfl)))
    (sss_cons (ss_for C.po C.hc (ei_seq (ev_var 0)) (eg_name 2 C.nd) (sss_one (ss_set 1 C.nd (ev_call f_plus C.hr C.hx (by rfl) (ea_cons (ev_var 1) (ea_cons (ev_var 2) ea_nil))))))
    (sss_one (ss_ret (ev_var 1))))))
theorem sc_look_book : FnScope ["book"] ["book"] (defScope s_look_book) := ⟨rfl, rfl, rfl, by decide +kernel, rfl, by decide +kernel, by decide +kernel⟩
theorem ok_look_book {P : Program} {w : World} {K : PySem.W.Frag} {mg : Str → Option Value} {base : Heap} {f : Addr} {fd : FuncData} (F : FunD K (Str.ofString "look_book") (Str.ofString "look_book") (defArgs s_look_book) (defBody s_look_book) (defScope s_look_book) [] [] f fd) (hm : mg (Str.ofString "look_book") = some (.ref f)) (zb : Bts mg) (e_NoBook : ErrC K mg (Str.ofString "NoBook")) (f_is_book : Fn P w K mg base 3 (Str.ofString "is_book") 1 F_is_book) : Fn P w K mg base 4 (Str.ofString "look_book") 1 F_look_book :=
  fn_def (N := ["book"]) (ps := ["book"]) (k := 3) (fb := B_look_book) F hm sc_look_book (fun _ _ _ _ _ _ us hl => match us, hl with | [_], _ => rfl) (fun cdv A outer s H E C =>
    (sss_one (ss_if (et_not (et_val (ev_call f_is_book C.hr C.hx (by rfl) (ea_cons (ev_var 0) ea_nil)))) (sss_one (ss_raise e_NoBook C.hc C.tk (by rfl))) sss_nil)))
theorem sc_gathered : FnScope ["pairs", "found", "name", "part"] ["pairs"] (defScope s_gathered) := ⟨rfl, rfl, rfl, by decide +kernel, rfl, by decide +kernel, by decide +kernel⟩
theorem ok_gathered {P : Program} {w : World} {K : PySem.W.Frag} {mg : Str → Option Value} {base : Heap} {f : Addr} {fd : FuncData} (F : FunD K (Str.ofString "gathered") (Str.ofString "gathered") (defArgs s_gathered) (defBody s_gathered) (defScope s_gathered) [] [] f fd) (hm : mg (Str.ofString "gathered") = some (.ref f)) (zb : Bts mg) (c_NOUGHT : Kon K mg (Str.ofString "NOUGHT") d_NOUGHT) (f_plus : Fn P w K mg base 3 (Str.ofString "plus") 2 F_plus) : Fn P w K mg base 4 (Str.ofString "gathered") 1 F_gathered :=
  fn_def (N := ["pairs", "found", "name", "part"]) (ps := ["pairs"]) (k := 3) (fb := B_gathered) F hm sc_gathered (fun _ _ _ _ _ _ us hl => match us, hl with | [_], _ => rfl) (fun cdv A outer s H E C =>
    (sss_cons (ss_dnew 1 C.nd)
    (sss_cons (ss_for C.po C.hc (ei_seq (ev_var 0)) (eg_tup C.hc (egs_cons (eg_name 2 C.nd) (egs_cons (eg_name 3 C.nd) egs_nil))) (sss_one (ss_dput 1 (units1 C.hr) (ev_call f_plus C.hr C.hx (by rfl) (ea_cons (ev_dget2 (units1 C.hr) (ev_dvar (ev_var 1)) (ev_var 2) (ev_glob c_NOUGHT (by rfl)) ⟨by rfl, by rfl, by rfl, by rfl⟩ (fDV_view _)) (ea_cons (ev_var 3) ea_nil))) (ev_var 2))))
    (sss_one (ss_ret (EN.ev (en_lc [("name", 2)] C.hc C.nd (ei_seq (EN.ev (en_callB cr_sortedS cn_sortT (by rfl) zb.sorted (by decide +kernel) (eb_cons (EN.ev (en_callTy (call_listD C.hc) cn_listKD (by rfl) zb.list (by decide +kernel) (eb_cons (ev_dvar (ev_var 1)) eb_nil))) eb_nil)))) (blkOk_by (by kernel_rfl)) (fun _ _ _ _ _ => (eg_name 2 C.nd)) (fun _ _ _ _ _ => (ets_one (et_cmp (op_neD C.hr.units) ops_neD (ev_dget (units1 C.hr) (ev_dvar (ev_var 1)) (ev_var 2)) (ev_glob c_NOUGHT (by rfl)) (nomark _)))) (fun _ _ _ _ _ => (ev_tup (ea_cons (ev_var 2) (ea_cons (ev_dget (units1 C.hr) (ev_dvar (ev_var 1)) (ev_var 2)) ea_nil)))))))))))
theorem sc_eased : FnScope ["way", "part"] ["way", "part"] (defScope s_eased) := ⟨rfl, rfl, rfl, by decide +kernel, rfl, by decide +kernel, by decide +kernel⟩
theorem ok_eased {P : Program} {w : World} {K : PySem.W.Frag} {mg : Str → Option Value} {base : Heap} {f : Addr} {fd : FuncData} (F : FunD K (Str.ofString "eased") (Str.ofString "eased") (defArgs s_eased) (defBody s_eased) (defScope s_eased) [] [] f fd) (hm : mg (Str.ofString "eased") = some (.ref f)) (zb : Bts mg) (f_minus : Fn P w K mg base 3 (Str.ofString "minus") 2 F_minus) (f_plus : Fn P w K mg base 3 (Str.ofString "plus") 2 F_plus) (f_times : Fn P w K mg base 3 (Str.ofString "times") 2 F_times) : Fn P w K mg base 4 (Str.ofString "eased") 2 F_eased :=
  fn_def (N := ["way", "part"]) (ps := ["way", "part"]) (k := 3) (fb := B_eased) F hm sc_eased (fun _ _ _ _ _ _ us hl => match us, hl with | [_, _], _ => rfl) (fun cdv A outer s H E C =>
    (sss_cons (ss_if (et_cmp (op_eqD C.hr.units) ops_eqD (ev_var 0) ev_str (nomark _)) (sss_one (ss_ret (ev_var 1))) sss_nil)
    (sss_one (ss_ret (ev_call f_times C.hr C.hx (by rfl) (ea_cons (ev_call f_times C.hr C.hx (by rfl) (ea_cons (ev_var 1) (ea_cons (ev_var 1) ea_nil))) (ea_cons (ev_call f_minus C.hr C.hx (by rfl) (ea_cons (ev_tup (ea_cons ev_int (ea_cons ev_int ea_nil))) (ea_cons (ev_call f_plus C.hr C.hx (by rfl) (ea_cons (ev_var 1) (ea_cons (ev_var 1) ea_nil))) ea_nil))) ea_nil)))))))
theorem sc_Mover_o_part : FnScope ["self", "gone"] ["self"] (defScope s_Mover_o_part) := ⟨rfl, rfl, rfl, by decide +kernel, rfl, by decide +kernel, by decide +kernel⟩
theorem ok_Mover_o_part {P : Program} {w : World} {K : PySem.W.Frag} {mg : Str → Option Value} {base : Heap} {f : Addr} {fd : FuncData} (F : FunD K (Str.ofString "part") (Str.ofString "Mover.part") (defArgs s_Mover_o_part) (defBody s_Mover_o_part) (defScope s_Mover_o_part) [] [] f fd) (hm : Meth K (He.ga K (Str.ofString "Mover")) (Str.ofString "part") f) (zb : Bts mg) (c_ONE : Kon K mg (Str.ofString "ONE") d_ONE) (k_Mover : Cls K (He.ga K (Str.ofString "Mover"))) (n_Mover_begun : NoAttr K (He.ga K (Str.ofString "Mover")) (Str.ofString "begun")) (n_Mover_long : NoAttr K (He.ga K (Str.ofString "Mover")) (Str.ofString "long")) (n_Mover_now : NoAttr K (He.ga K (Str.ofString "Mover")) (Str.ofString "now")) (f_is_less : Fn P w K mg base 1 (Str.ofString "is_less") 2 F_is_less) (f_minus : Fn P w K mg base 3 (Str.ofString "minus") 2 F_minus) (f_parted : Fn P w K mg base 3 (Str.ofString "parted") 2 F_parted) : FnRm P w K mg base 4 (Str.ofString "Mover") (Str.ofString "part") 1 F_Mover_o_part :=
  mtR_def (N := ["self", "gone"]) (ps := ["self"]) (k := 3) (fb := B_Mover_o_part) F hm sc_Mover_o_part (fun _ _ _ _ _ _ us hl => match us, hl with | [_], _ => rfl) (fun cdv A outer s H E C =>
    (sss_cons (ss_set 1 C.nd (ev_call f_minus C.hr C.hx (by rfl) (ea_cons (ev_fld k_Mover n_Mover_now (ev_var 0)) (ea_cons (ev_fld k_Mover n_Mover_begun (ev_var 0)) ea_nil))))
    (sss_one (ss_ret (ev_if (et_val (ev_call f_is_less C.hr C.hx (by rfl) (ea_cons (ev_var 1) (ea_cons (ev_fld k_Mover n_Mover_long (ev_var 0)) ea_nil)))) (ev_call f_parted C.hr C.hx (by rfl) (ea_cons (ev_var 1) (ea_cons (ev_fld k_Mover n_Mover_long (ev_var 0)) ea_nil))) (ev_glob c_ONE (by rfl)))))))
theorem sc_Mover_o_go_on : FnScope ["self", "long"] ["self", "long"] (defScope s_Mover_o_go_on) := ⟨rfl, rfl, rfl, by decide +kernel, rfl, by decide +kernel, by decide +kernel⟩
theorem ok_Mover_o_go_on {P : Program} {w : World} {K : PySem.W.Frag} {mg : Str → Option Value} {base : Heap} {f : Addr} {fd : FuncData} (F : FunD K (Str.ofString "go_on") (Str.ofString "Mover.go_on") (defArgs s_Mover_o_go_on) (defBody s_Mover_o_go_on) (defScope s_Mover_o_go_on) [] [] f fd) (hm : Meth K (He.ga K (Str.ofString "Mover")) (Str.ofString "go_on") f) (zb : Bts mg) (e_NoNumber : ErrC K mg (Str.ofString "NoNumber")) (k_Mover : Cls K (He.ga K (Str.ofString "Mover"))) (n_Mover_now : NoAttr K (He.ga K (Str.ofString "Mover")) (Str.ofString "now")) (f_is_time : Fn P w K mg base 3 (Str.ofString "is_time") 1 F_is_time) (f_plus : Fn P w K mg base 3 (Str.ofString "plus") 2 F_plus) : FnMm P w K mg base 4 (Str.ofString "Mover") (Str.ofString "go_on") 2 F_Mover_o_go_on :=
  mtM_def (N := ["self", "long"]) (ps := ["self", "long"]) (k := 3) (fb := B_Mover_o_go_on) F hm sc_Mover_o_go_on (fun _ _ _ _ _ _ us hl => match us, hl with | [_, _], _ => rfl) (fun cdv A outer s H E C =>
    (ssm_cons (ss_if (et_not (et_val (ev_call f_is_time C.hr C.hx (by rfl) (ea_cons (ev_var 1) ea_nil)))) (sss_one (ss_raise e_NoNumber C.hc C.tk (by rfl))) sss_nil)
    (ssm_sw (sss_one (ss_fset k_Mover n_Mover_now (ev_var 0) (ev_call f_plus C.hr passZ (by rfl) (ea_cons (ev_fld k_Mover n_Mover_now (ev_var 0)) (ea_cons (ev_var 1) ea_nil))))))))
theorem sc_Mover_o_left : FnScope ["self", "rest"] ["self"] (defScope s_Mover_o_left) := ⟨rfl, rfl, rfl, by decide +kernel, rfl, by decide +kernel, by decide +kernel⟩
theorem ok_Mover_o_left {P : Program} {w : World} {K : PySem.W.Frag} {mg : Str → Option Value} {base : Heap} {f : Addr} {fd : FuncData} (F : FunD K (Str.ofString "left") (Str.ofString "Mover.left") (defArgs s_Mover_o_left) (defBody s_Mover_o_left) (defScope s_Mover_o_left) [] [] f fd) (hm : Meth K (He.ga K (Str.ofString "Mover")) (Str.ofString "left") f) (zb : Bts mg) (c_NOUGHT : Kon K mg (Str.ofString "NOUGHT") d_NOUGHT) (k_Mover : Cls K (He.ga K (Str.ofString "Mover"))) (n_Mover_begun : NoAttr K (He.ga K (Str.ofString "Mover")) (Str.ofString "begun")) (n_Mover_long : NoAttr K (He.ga K (Str.ofString "Mover")) (Str.ofString "long")) (n_Mover_now : NoAttr K (He.ga K (Str.ofString "Mover")) (Str.ofString "now")) (f_minus : Fn P w K mg base 3 (Str.ofString "minus") 2 F_minus) (f_plus : Fn P w K mg base 3 (Str.ofString "plus") 2 F_plus) : FnRm P w K mg base 4 (Str.ofString "Mover") (Str.ofString "left") 1 F_Mover_o_left :=
  mtR_def (N := ["self", "rest"]) (ps := ["self"]) (k := 3) (fb := B_Mover_o_left) F hm sc_Mover_o_left (fun _ _ _ _ _ _ us hl => match us, hl with | [_], _ => rfl) (fun cdv A outer s H E C =>
    (sss_cons (ss_set 1 C.nd (ev_call f_minus C.hr C.hx (by rfl) (ea_cons (ev_call f_plus C.hr C.hx (by rfl) (ea_cons (ev_fld k_Mover n_Mover_begun (ev_var 0)) (ea_cons (ev_fld k_Mover n_Mover_long (ev_var 0)) ea_nil))) (ea_cons (ev_fld k_Mover n_Mover_now (ev_var 0)) ea_nil))))
    (sss_one (ss_ret (ev_if (et_cmp op_gt ops_gtI (ev_ix (ev_var 1) ev_int) ev_int (nomark _)) (ev_var 1) (ev_glob c_NOUGHT (by rfl)))))))
theorem sc_u_law_led : FnScope ["one", "other", "part", "rest", "pairs", "name", "here"] ["one", "other", "part"] (defScope s_u_law_led) := ⟨rfl, rfl, rfl, by decide +kernel, rfl, by decide +kernel, by decide +kernel⟩
theorem ok_u_law_led {P : Program} {w : World} {K : PySem.W.Frag} {mg : Str → Option Value} {base : Heap} {f : Addr} {fd : FuncData} (F : FunD K (Str.ofString "_law_led") (Str.ofString "_law_led") (defArgs s_u_law_led) (defBody s_u_law_led) (defScope s_u_law_led) [] [] f fd) (hm : mg (Str.ofString "_law_led") = some (.ref f)) (zb : Bts mg) (f_u_law_gathered : Fn P w K mg base 3 (Str.ofString "_law_gathered") 1 F_u_law_gathered) (f_u_law_low : Fn P w K mg base 1 (Str.ofString "_law_low") 2 F_u_law_low) : Fn P w K mg base 4 (Str.ofString "_law_led") 3 F_u_law_led :=
  fn_def (N := ["one", "other", "part", "rest", "pairs", "name", "here"]) (ps := ["one", "other", "part"]) (k := 3) (fb := B_u_law_led) F hm sc_u_law_led (fun _ _ _ _ _ _ us hl => match us, hl with | [_, _, _], _ => rfl) (fun cdv A outer s H E C =>
    (sss_cons (ss_set 3 C.nd (ev_tup (ea_cons (ev_op op_sub ops_subI (ev_ix (ev_var 2) ev_int) (ev_ix (ev_var 2) ev_int)) (ea_cons (ev_ix (ev_var 2) ev_int) ea_nil))))
    (sss_cons (ss_setLc 4 [("name", 5), ("here", 6)] C.hc C.nd (ei_seq (ev_var 0)) (blkOk_by (by kernel_rfl)) (fun _ _ _ _ _ => (eg_tup C.hc (egs_cons (eg_name 5 C.nd) (egs_cons (eg_name 6 C.nd) egs_nil)))) (fun _ _ _ _ _ => ets_nil) (fun _ _ _ _ _ => (ev_tup (ea_cons (ev_var 5) (ea_cons (ev_call f_u_law_low C.hr passZ (by rfl) (ea_cons (ev_op op_mulD ops_mulD (ev_ix (ev_var 6) ev_int) (ev_ix (ev_var 3) ev_int)) (ea_cons (ev_op op_mulD ops_mulD (ev_ix (ev_var 6) ev_int) (ev_ix (ev_var 3) ev_int)) ea_nil))) ea_nil)))))
    (sss_one (ss_ret (ev_call f_u_law_gathered C.hr C.hx (by rfl) (ea_cons (ev_op op_addD ops_addD (ev_var 4) (EN.ev (en_lc [("name", 5), ("here", 6)] C.hc C.nd (ei_seq (ev_var 1)) (blkOk_by (by kernel_rfl)) (fun _ _ _ _ _ => (eg_tup C.hc (egs_cons (eg_name 5 C.nd) (egs_cons (eg_name 6 C.nd) egs_nil)))) (fun _ _ _ _ _ => ets_nil) (fun _ _ _ _ _ => (ev_tup (ea_cons (ev_var 5) (ea_cons (ev_call f_u_law_low C.hr passZ (by rfl) (ea_cons (ev_op op_mulD ops_mulD (ev_ix (ev_var 6) ev_int) (ev_ix (ev_var 2) ev_int)) (ea_cons (ev_op op_mulD ops_mulD (ev_ix (ev_var 6) ev_int) (ev_ix (ev_var 2) ev_int)) ea_nil))) ea_nil))))))) ea_nil)))))))
theorem sc_are_shares_in : FnScope ["book", "thing", "one", "names"] ["book", "thing"] (defScope s_are_shares_in) := ⟨rfl, rfl, rfl, by decide +kernel, rfl, by decide +kernel, by decide +kernel⟩
theorem ok_are_shares_in {P : Program} {w : World} {K : PySem.W.Frag} {mg : Str → Option Value} {base : Heap} {f : Addr} {fd : FuncData} (F : FunD K (Str.ofString "are_shares_in") (Str.ofString "are_shares_in") (defArgs s_are_shares_in) (defBody s_are_shares_in) (defScope s_are_shares_in) [] [] f fd) (hm : mg (Str.ofString "are_shares_in") = some (.ref f)) (zb : Bts mg) (c_ONE : Kon K mg (Str.ofString "ONE") d_ONE) (f_has_name : Fn P w K mg base 2 (Str.ofString "has_name") 2 F_has_name) (f_is_fraction : Fn P w K mg base 2 (Str.ofString "is_fraction") 1 F_is_fraction) (f_summed : Fn P w K mg base 4 (Str.ofString "summed") 1 F_summed) : Fn P w K mg base 5 (Str.ofString "are_shares_in") 2 F_are_shares_in :=
  fn_def (N := ["book", "thing", "one", "names"]) (ps := ["book", "thing"]) (k := 4) (fb := B_are_shares_in) F hm sc_are_shares_in (fun _ _ _ _ _ _ us hl => match us, hl with | [_, _], _ => rfl) (fun cdv A outer s H E C =>
    (sss_cons (ss_if (et_not (et_val (ev_isi2 "list" "tuple" (by decide) (by decide) (by rfl) zb.isinstance (by rfl) zb.list (by decide +kernel) (by rfl) zb.tuple (by decide +kernel) (ev_var 1)))) (sss_one (ss_ret ev_bl)) sss_nil)
    (sss_cons (ss_for C.po C.hc (ei_seq (ev_var 1)) (eg_name 2 C.nd) (sss_cons (ss_if (EW.et (ew_or (et_not (et_val (ev_isi "tuple" (by decide) (by rfl) zb.isinstance (by rfl) zb.tuple (by decide +kernel) (ev_var 2)))) (ew_or (et_cmp (op_neD C.hr.units) ops_neD (ev_callB call_lenD cs_lenD (by rfl) zb.len (by decide +kernel) (eb_cons (ev_var 2) eb_nil)) ev_int (nomark _)) (ew_or1 (et_not (et_val (ev_call f_has_name C.hr C.hx (by rfl) (ea_cons (ev_var 0) (ea_cons (ev_ix (ev_var 2) ev_int) ea_nil))))))))) (sss_one (ss_ret ev_bl)) sss_nil)
    (sss_one (ss_if (EW.et (ew_or (et_not (et_val (ev_call f_is_fraction C.hr C.hx (by rfl) (ea_cons (ev_ix (ev_var 2) ev_int) ea_nil)))) (ew_or1 (et_cmp op_leD ops_leD (ev_ix (ev_ix (ev_var 2) ev_int) ev_int) ev_int (nomark _))))) (sss_one (ss_ret ev_bl)) sss_nil))))
    (sss_cons (ss_setLc 3 [("one", 2)] C.hc C.nd (ei_seq (ev_var 1)) (blkOk_by (by kernel_rfl)) (fun _ _ _ _ _ => (eg_name 2 C.nd)) (fun _ _ _ _ _ => ets_nil) (fun _ _ _ _ _ => (ev_ix (ev_var 2) ev_int)))
    (sss_one (ss_ret (ev_and (ev_cmp (op_eqD C.hr.units) ops_eqD (ev_var 3) (EN.ev (en_sortSet C.hc (by rfl) zb.sorted (by rfl) zb.set (ev_var 3))) (nomark _)) (ev_one (ev_cmp (op_eqD C.hr.units) ops_eqD (ev_call f_summed C.hr C.hx (by rfl) (ea_cons (EN.ev (en_lc [("one", 2)] C.hc C.nd (ei_seq (ev_var 1)) (blkOk_by (by kernel_rfl)) (fun _ _ _ _ _ => (eg_name 2 C.nd)) (fun _ _ _ _ _ => ets_nil) (fun _ _ _ _ _ => (ev_ix (ev_var 2) ev_int)))) ea_nil)) (ev_glob c_ONE (by rfl)) (nomark _))))))))))
theorem sc_worths_of : FnScope ["book", "shares", "made", "joint", "name", "part"] ["book", "shares"] (defScope s_worths_of) := ⟨rfl, rfl, rfl, by decide +kernel, rfl, by decide +kernel, by decide +kernel⟩
theorem ok_worths_of {P : Program} {w : World} {K : PySem.W.Frag} {mg : Str → Option Value} {base : Heap} {f : Addr} {fd : FuncData} (F : FunD K (Str.ofString "worths_of") (Str.ofString "worths_of") (defArgs s_worths_of) (defBody s_worths_of) (defScope s_worths_of) [] [] f fd) (hm : mg (Str.ofString "worths_of") = some (.ref f)) (zb : Bts mg) (f_stand_in : Fn P w K mg base 1 (Str.ofString "stand_in") 2 F_stand_in) (f_summed : Fn P w K mg base 4 (Str.ofString "summed") 1 F_summed) (f_times : Fn P w K mg base 3 (Str.ofString "times") 2 F_times) : Fn P w K mg base 5 (Str.ofString "worths_of") 2 F_worths_of :=
  fn_def (N := ["book", "shares", "made", "joint", "name", "part"]) (ps := ["book", "shares"]) (k := 4) (fb := B_worths_of) F hm sc_worths_of (fun _ _ _ _ _ _ us hl => match us, hl with | [_, _], _ => rfl) (fun cdv A outer s H E C =>
    (sss_cons (ss_setN 2 C.nd (en_lst ea_nil))
    (sss_cons (ss_for C.po C.hc (ei_range1 (by rfl) zb.range (ea_cons (ev_callB call_lenD cs_lenD (by rfl) zb.len (by decide +kernel) (eb_cons (ev_ix (ev_ix (ev_var 0) ev_int) ev_int) eb_nil)) ea_nil)) (eg_name 3 C.nd) (sss_one (ss_app 2 (ev_call f_summed C.hr C.hx (by rfl) (ea_cons (EN.ev (en_lc [("name", 4), ("part", 5)] C.hc C.nd (ei_seq (ev_var 1)) (blkOk_by (by kernel_rfl)) (fun _ _ _ _ _ => (eg_tup C.hc (egs_cons (eg_name 4 C.nd) (egs_cons (eg_name 5 C.nd) egs_nil)))) (fun _ _ _ _ _ => ets_nil) (fun _ _ _ _ _ => (ev_call f_times C.hr passZ (by rfl) (ea_cons (ev_var 5) (ea_cons (ev_tup (ea_cons (ev_ix (ev_call f_stand_in C.hr passZ (by rfl) (ea_cons (ev_var 0) (ea_cons (ev_var 4) ea_nil))) (ev_var 3)) (ea_cons ev_int ea_nil))) ea_nil)))))) ea_nil)))))
    (sss_one (ss_ret (ev_callTy call_tuple_of cs_tupleD (by rfl) zb.tuple (by decide +kernel) (eb_cons (ev_var 2) eb_nil)))))))
theorem sc_led_over : FnScope ["one", "other", "part", "rest", "pairs", "name", "here"] ["one", "other", "part"] (defScope s_led_over) := ⟨rfl, rfl, rfl, by decide +kernel, rfl, by decide +kernel, by decide +kernel⟩
theorem ok_led_over {P : Program} {w : World} {K : PySem.W.Frag} {mg : Str → Option Value} {base : Heap} {f : Addr} {fd : FuncData} (F : FunD K (Str.ofString "led_over") (Str.ofString "led_over") (defArgs s_led_over) (defBody s_led_over) (defScope s_led_over) [] [] f fd) (hm : mg (Str.ofString "led_over") = some (.ref f)) (zb : Bts mg) (c_ONE : Kon K mg (Str.ofString "ONE") d_ONE) (f_gathered : Fn P w K mg base 4 (Str.ofString "gathered") 1 F_gathered) (f_minus : Fn P w K mg base 3 (Str.ofString "minus") 2 F_minus) (f_times : Fn P w K mg base 3 (Str.ofString "times") 2 F_times) : Fn P w K mg base 5 (Str.ofString "led_over") 3 F_led_over :=
  fn_def (N := ["one", "other", "part", "rest", "pairs", "name", "here"]) (ps := ["one", "other", "part"]) (k := 4) (fb := B_led_over) F hm sc_led_over (fun _ _ _ _ _ _ us hl => match us, hl with | [_, _, _], _ => rfl) (fun cdv A outer s H E C =>
    (sss_cons (ss_set 3 C.nd (ev_call f_minus C.hr C.hx (by rfl) (ea_cons (ev_glob c_ONE (by rfl)) (ea_cons (ev_var 2) ea_nil))))
    (sss_cons (ss_setLc 4 [("name", 5), ("here", 6)] C.hc C.nd (ei_seq (ev_var 0)) (blkOk_by (by kernel_rfl)) (fun _ _ _ _ _ => (eg_tup C.hc (egs_cons (eg_name 5 C.nd) (egs_cons (eg_name 6 C.nd) egs_nil)))) (fun _ _ _ _ _ => ets_nil) (fun _ _ _ _ _ => (ev_tup (ea_cons (ev_var 5) (ea_cons (ev_call f_times C.hr passZ (by rfl) (ea_cons (ev_var 6) (ea_cons (ev_var 3) ea_nil))) ea_nil)))))
    (sss_one (ss_ret (ev_call f_gathered C.hr C.hx (by rfl) (ea_cons (ev_op op_addD ops_addD (ev_var 4) (EN.ev (en_lc [("name", 5), ("here", 6)] C.hc C.nd (ei_seq (ev_var 1)) (blkOk_by (by kernel_rfl)) (fun _ _ _ _ _ => (eg_tup C.hc (egs_cons (eg_name 5 C.nd) (egs_cons (eg_name 6 C.nd) egs_nil)))) (fun _ _ _ _ _ => ets_nil) (fun _ _ _ _ _ => (ev_tup (ea_cons (ev_var 5) (ea_cons (ev_call f_times C.hr passZ (by rfl) (ea_cons (ev_var 6) (ea_cons (ev_var 2) ea_nil))) ea_nil))))))) ea_nil)))))))
theorem sc_Mover_o_u__init_u_ : FnScope ["self", "book", "name"] ["self", "book", "name"] (defScope s_Mover_o_u__init_u_) := ⟨rfl, rfl, rfl, by decide +kernel, rfl, by decide +kernel, by decide +kernel⟩
theorem ok_Mover_o_u__init_u_ {P : Program} {w : World} {K : PySem.W.Frag} {mg : Str → Option Value} {base : Heap} {f : Addr} {fd : FuncData} (F : FunD K (Str.ofString "__init__") (Str.ofString "Mover.__init__") (defArgs s_Mover_o_u__init_u_) (defBody s_Mover_o_u__init_u_) (defScope s_Mover_o_u__init_u_) [] [] f fd) (hm : Mk K (He.ga K (Str.ofString "Mover")) f) (hg : mg (Str.ofString "Mover") = some (.ref (He.ga K (Str.ofString "Mover")))) (zb : Bts mg) (c_NOUGHT : Kon K mg (Str.ofString "NOUGHT") d_NOUGHT) (c_ONE : Kon K mg (Str.ofString "ONE") d_ONE) (k_Mover : Cls K (He.ga K (Str.ofString "Mover"))) (n_Mover_begun : NoAttr K (He.ga K (Str.ofString "Mover")) (Str.ofString "begun")) (n_Mover_end : NoAttr K (He.ga K (Str.ofString "Mover")) (Str.ofString "end")) (n_Mover_known : NoAttr K (He.ga K (Str.ofString "Mover")) (Str.ofString "known")) (n_Mover_long : NoAttr K (He.ga K (Str.ofString "Mover")) (Str.ofString "long")) (n_Mover_now : NoAttr K (He.ga K (Str.ofString "Mover")) (Str.ofString "now")) (n_Mover_start : NoAttr K (He.ga K (Str.ofString "Mover")) (Str.ofString "start")) (n_Mover_way : NoAttr K (He.ga K (Str.ofString "Mover")) (Str.ofString "way")) (f_look_book : Fn P w K mg base 4 (Str.ofString "look_book") 1 F_look_book) (f_look_name : Fn P w K mg base 3 (Str.ofString "look_name") 2 F_look_name) : ClsM P w K mg base 5 (Str.ofString "Mover") 3 F_Mover_o_u__init_u_ :=
  cls_def (N := ["self", "book", "name"]) (ps := ["self", "book", "name"]) (k := 4) (fb := B_Mover_o_u__init_u_) F hm hg sc_Mover_o_u__init_u_ (fun _ _ _ _ _ _ us hl => match us, hl with | [_, _, _], _ => rfl) (fun cdv A outer s H E C =>
    (ssm_cons (ss_expr (ev_call f_look_book C.hr C.hx (by rfl) (ea_cons (ev_var 1) ea_nil)))
    (ssm_cons (ss_expr (ev_call f_look_name C.hr C.hx (by rfl) (ea_cons (ev_var 1) (ea_cons (ev_var 2) ea_nil))))
    (ssm_sw (sss_cons (ss_fset k_Mover n_Mover_known (ev_var 0) (ev_var 1))
    (sss_cons (ss_fset k_Mover n_Mover_now (ev_var 0) (ev_glob c_NOUGHT (by rfl)))
    (sss_cons (ss_fset k_Mover n_Mover_start (ev_var 0) (EN.ev (en_lst (ea_cons (ev_tup (ea_cons (ev_var 2) (ea_cons (ev_glob c_ONE (by rfl)) ea_nil))) ea_nil))))
    (sss_cons (ss_fset k_Mover n_Mover_end (ev_var 0) (ev_var 2))
    (sss_cons (ss_fset k_Mover n_Mover_begun (ev_var 0) (ev_glob c_NOUGHT (by rfl)))
    (sss_cons (ss_fset k_Mover n_Mover_long (ev_var 0) (ev_glob c_NOUGHT (by rfl)))
    (sss_one (ss_fset k_Mover n_Mover_way (ev_var 0) ev_str))))))))))))
theorem sc_are_shares : FnScope ["book", "thing"] ["book", "thing"] (defScope s_are_shares) := ⟨rfl, rfl, rfl, by decide +kernel, rfl, by decide +kernel, by decide +kernel⟩
theorem ok_are_shares {P : Program} {w : World} {K : PySem.W.Frag} {mg : Str → Option Value} {base : Heap} {f : Addr} {fd : FuncData} (F : FunD K (Str.ofString "are_shares") (Str.ofString "are_shares") (defArgs s_are_shares) (defBody s_are_shares) (defScope s_are_shares) [] [] f fd) (hm : mg (Str.ofString "are_shares") = some (.ref f)) (zb : Bts mg) (f_are_shares_in : Fn P w K mg base 5 (Str.ofString "are_shares_in") 2 F_are_shares_in) (f_look_book : Fn P w K mg base 4 (Str.ofString "look_book") 1 F_look_book) : Fn P w K mg base 6 (Str.ofString "are_shares") 2 F_are_shares :=
  fn_def (N := ["book", "thing"]) (ps := ["book", "thing"]) (k := 5) (fb := B_are_shares) F hm sc_are_shares (fun _ _ _ _ _ _ us hl => match us, hl with | [_, _], _ => rfl) (fun cdv A outer s H E C =>
    (sss_cons (ss_expr (ev_call f_look_book C.hr C.hx (by rfl) (ea_cons (ev_var 0) ea_nil)))
    (sss_one (ss_ret (ev_call f_are_shares_in C.hr C.hx (by rfl) (ea_cons (ev_var 0) (ea_cons (ev_var 1) ea_nil)))))))
theorem sc_Mover_o_shares : FnScope ["self"] ["self"] (defScope s_Mover_o_shares) := ⟨rfl, rfl, rfl, by decide +kernel, rfl, by decide +kernel, by decide +kernel⟩
theorem ok_Mover_o_shares {P : Program} {w : World} {K : PySem.W.Frag} {mg : Str → Option Value} {base : Heap} {f : Addr} {fd : FuncData} (F : FunD K (Str.ofString "shares") (Str.ofString "Mover.shares") (defArgs s_Mover_o_shares) (defBody s_Mover_o_shares) (defScope s_Mover_o_shares) [] [] f fd) (hm : Meth K (He.ga K (Str.ofString "Mover")) (Str.ofString "shares") f) (zb : Bts mg) (c_ONE : Kon K mg (Str.ofString "ONE") d_ONE) (k_Mover : Cls K (He.ga K (Str.ofString "Mover"))) (n_Mover_end : NoAttr K (He.ga K (Str.ofString "Mover")) (Str.ofString "end")) (n_Mover_start : NoAttr K (He.ga K (Str.ofString "Mover")) (Str.ofString "start")) (n_Mover_way : NoAttr K (He.ga K (Str.ofString "Mover")) (Str.ofString "way")) (f_Mover_o_part : FnRm P w K mg base 4 (Str.ofString "Mover") (Str.ofString "part") 1 F_Mover_o_part) (f_eased : Fn P w K mg base 4 (Str.ofString "eased") 2 F_eased) (f_led_over : Fn P w K mg base 5 (Str.ofString "led_over") 3 F_led_over) : FnRm P w K mg base 6 (Str.ofString "Mover") (Str.ofString "shares") 1 F_Mover_o_shares :=
  mtR_def (N := ["self"]) (ps := ["self"]) (k := 5) (fb := B_Mover_o_shares) F hm sc_Mover_o_shares (fun _ _ _ _ _ _ us hl => match us, hl with | [_], _ => rfl) (fun cdv A outer s H E C =>
    (sss_one (ss_ret (ev_call f_led_over C.hr C.hx (by rfl) (ea_cons (ev_fld k_Mover n_Mover_start (ev_var 0)) (ea_cons (EN.ev (en_lst (ea_cons (ev_tup (ea_cons (ev_fld k_Mover n_Mover_end (ev_var 0)) (ea_cons (ev_glob c_ONE (by rfl)) ea_nil))) ea_nil))) (ea_cons (ev_call f_eased C.hr C.hx (by rfl) (ea_cons (ev_fld k_Mover n_Mover_way (ev_var 0)) (ea_cons (ev_methR0 k_Mover f_Mover_o_part C.hr C.hx (ev_var 0)) ea_nil))) ea_nil)))))))
theorem sc_Mover_o_call : FnScope ["self", "name", "long", "way"] ["self", "name", "long", "way"] (defScope s_Mover_o_call) := ⟨rfl, rfl, rfl, by decide +kernel, rfl, by decide +kernel, by decide +kernel⟩
theorem ok_Mover_o_call {P : Program} {w : World} {K : PySem.W.Frag} {mg : Str → Option Value} {base : Heap} {f : Addr} {fd : FuncData} (F : FunD K (Str.ofString "call") (Str.ofString "Mover.call") (defArgs s_Mover_o_call) (defBody s_Mover_o_call) (defScope s_Mover_o_call) [] [] f fd) (hm : Meth K (He.ga K (Str.ofString "Mover")) (Str.ofString "call") f) (zb : Bts mg) (e_NoNumber : ErrC K mg (Str.ofString "NoNumber")) (e_NoWay : ErrC K mg (Str.ofString "NoWay")) (k_Mover : Cls K (He.ga K (Str.ofString "Mover"))) (n_Mover_begun : NoAttr K (He.ga K (Str.ofString "Mover")) (Str.ofString "begun")) (n_Mover_end : NoAttr K (He.ga K (Str.ofString "Mover")) (Str.ofString "end")) (n_Mover_known : NoAttr K (He.ga K (Str.ofString "Mover")) (Str.ofString "known")) (n_Mover_long : NoAttr K (He.ga K (Str.ofString "Mover")) (Str.ofString "long")) (n_Mover_now : NoAttr K (He.ga K (Str.ofString "Mover")) (Str.ofString "now")) (n_Mover_start : NoAttr K (He.ga K (Str.ofString "Mover")) (Str.ofString "start")) (n_Mover_way : NoAttr K (He.ga K (Str.ofString "Mover")) (Str.ofString "way")) (f_Mover_o_shares : FnRm P w K mg base 6 (Str.ofString "Mover") (Str.ofString "shares") 1 F_Mover_o_shares) (f_is_time : Fn P w K mg base 3 (Str.ofString "is_time") 1 F_is_time) (f_is_way : Fn P w K mg base 1 (Str.ofString "is_way") 1 F_is_way) (f_look_name : Fn P w K mg base 3 (Str.ofString "look_name") 2 F_look_name) : FnMm P w K mg base 7 (Str.ofString "Mover") (Str.ofString "call") 4 F_Mover_o_call :=
  mtM_def (N := ["self", "name", "long", "way"]) (ps := ["self", "name", "long", "way"]) (k := 6) (fb := B_Mover_o_call) F hm sc_Mover_o_call (fun _ _ _ _ _ _ us hl => match us, hl with | [_, _, _, _], _ => rfl) (fun cdv A outer s H E C =>
    (ssm_cons (ss_expr (ev_call f_look_name C.hr C.hx (by rfl) (ea_cons (ev_fld k_Mover n_Mover_known (ev_var 0)) (ea_cons (ev_var 1) ea_nil))))
    (ssm_cons (ss_if (et_not (et_val (ev_call f_is_time C.hr C.hx (by rfl) (ea_cons (ev_var 2) ea_nil)))) (sss_one (ss_raise e_NoNumber C.hc C.tk (by rfl))) sss_nil)
    (ssm_cons (ss_if (et_not (et_val (ev_call f_is_way C.hr C.hx (by rfl) (ea_cons (ev_var 3) ea_nil)))) (sss_one (ss_raise e_NoWay C.hc C.tk (by rfl))) sss_nil)
    (ssm_sw (sss_cons (ss_fset k_Mover n_Mover_start (ev_var 0) (ev_methR0 k_Mover f_Mover_o_shares C.hr passZ (ev_var 0)))
    (sss_cons (ss_fset k_Mover n_Mover_end (ev_var 0) (ev_var 1))
    (sss_cons (ss_fset k_Mover n_Mover_begun (ev_var 0) (ev_fld k_Mover n_Mover_now (ev_var 0)))
    (sss_cons (ss_fset k_Mover n_Mover_long (ev_var 0) (ev_var 2))
    (sss_one (ss_fset k_Mover n_Mover_way (ev_var 0) (ev_var 3))))))))))))
theorem sc_Mover_o_worths : FnScope ["self"] ["self"] (defScope s_Mover_o_worths) := ⟨rfl, rfl, rfl, by decide +kernel, rfl, by decide +kernel, by decide +kernel⟩
theorem ok_Mover_o_worths {P : Program} {w : World} {K : PySem.W.Frag} {mg : Str → Option Value} {base : Heap} {f : Addr} {fd : FuncData} (F : FunD K (Str.ofString "worths") (Str.ofString "Mover.worths") (defArgs s_Mover_o_worths) (defBody s_Mover_o_worths) (defScope s_Mover_o_worths) [] [] f fd) (hm : Meth K (He.ga K (Str.ofString "Mover")) (Str.ofString "worths") f) (zb : Bts mg) (k_Mover : Cls K (He.ga K (Str.ofString "Mover"))) (n_Mover_known : NoAttr K (He.ga K (Str.ofString "Mover")) (Str.ofString "known")) (f_Mover_o_shares : FnRm P w K mg base 6 (Str.ofString "Mover") (Str.ofString "shares") 1 F_Mover_o_shares) (f_worths_of : Fn P w K mg base 5 (Str.ofString "worths_of") 2 F_worths_of) : FnRm P w K mg base 7 (Str.ofString "Mover") (Str.ofString "worths") 1 F_Mover_o_worths :=
  mtR_def (N := ["self"]) (ps := ["self"]) (k := 6) (fb := B_Mover_o_worths) F hm sc_Mover_o_worths (fun _ _ _ _ _ _ us hl => match us, hl with | [_], _ => rfl) (fun cdv A outer s H E C =>
    (sss_one (ss_ret (ev_call f_worths_of C.hr C.hx (by rfl) (ea_cons (ev_fld k_Mover n_Mover_known (ev_var 0)) (ea_cons (ev_methR0 k_Mover f_Mover_o_shares C.hr C.hx (ev_var 0)) ea_nil))))))
theorem sc_u_law_do : FnScope ["what", "mover", "name", "long", "way", "kept", "answer", "e"] ["what", "mover", "name", "long", "way"] (defScope s_u_law_do) := ⟨rfl, rfl, rfl, by decide +kernel, rfl, by decide +kernel, by decide +kernel⟩
theorem ok_u_law_do {P : Program} {w : World} {K : PySem.W.Frag} {mg : Str → Option Value} {base : Heap} {f : Addr} {fd : FuncData} (F : FunD K (Str.ofString "_law_do") (Str.ofString "_law_do") (defArgs s_u_law_do) (defBody s_u_law_do) (defScope s_u_law_do) [] [] f fd) (hm : mg (Str.ofString "_law_do") = some (.ref f)) (zb : Bts mg) (zx : ErrX K mg ecs exs) (k_Mover : Cls K (He.ga K (Str.ofString "Mover"))) (f_Mover_o_u__init_u_ : ClsM P w K mg base 5 (Str.ofString "Mover") 3 F_Mover_o_u__init_u_) (f_Mover_o_call : FnMm P w K mg base 7 (Str.ofString "Mover") (Str.ofString "call") 4 F_Mover_o_call) (f_Mover_o_go_on : FnMm P w K mg base 4 (Str.ofString "Mover") (Str.ofString "go_on") 2 F_Mover_o_go_on) (f_Mover_o_goal : FnRm P w K mg base 1 (Str.ofString "Mover") (Str.ofString "goal") 1 F_Mover_o_goal) (f_u_law_word : Fn P w K mg base 1 (Str.ofString "_law_word") 1 F_u_law_word) : FnMf P w K mg base 8 (Str.ofString "_law_do") 5 F_u_law_do :=
  fnM_def (N := ["what", "mover", "name", "long", "way", "kept", "answer", "e"]) (ps := ["what", "mover", "name", "long", "way"]) (k := 7) (fb := B_u_law_do) F hm sc_u_law_do (fun _ _ _ _ _ _ us hl => match us, hl with | [_, _, _, _, _], _ => rfl) (fun cdv A outer s H E C =>
    (ssm_cons (ss_set 5 C.nd ev_non)
    (ssm_cons (ss_set 6 C.nd ev_non)
    (ssm_sw (sss_cons (ss_try 7 5 ecs (Cxt.z C) rfl rfl rfl zx.bl (by rfl) zx.cat (fun W pn xe C => (sss1_one (ss1_if (et_cmp (op_eqD C.hr.units) ops_eqD (ev_var 0) ev_int (nomark _)) (sss1_one (ss1_setM 6 C.nd (evm_meth k_Mover f_Mover_o_call C.hr C.hx (ev_var 1) (eao_cons (ev_var 2) (eao_cons (ev_var 3) (eao_cons (ev_var 4) eao_nil)))))) (sss1_one (ss1_setM 6 C.nd (evm_if (et_cmp (op_eqD C.hr.units) ops_eqD (ev_var 0) ev_int (nomark _)) (evm_meth k_Mover f_Mover_o_go_on C.hr C.hx (ev_var 1) (eao_cons (ev_var 3) eao_nil)) (evm_methR0M k_Mover f_Mover_o_goal C.hr C.hx (evm_make f_Mover_o_u__init_u_ C.hr C.hx (by rfl) (eao_cons (ev_var 1) (eao_cons (ev_var 2) eao_nil)))))))))))
    (sss_cons (ss_if (et_cmp op_isD ops_isD (ev_var 5) ev_non (nomark _)) (sss_one (ss_retM (ev_var 6))) sss_nil)
    (sss_one (ss_retM (ev_call f_u_law_word C.hr passZ (by rfl) (ea_cons (ev_var 5) ea_nil))))))))))
theorem sc_u_law_do_r : FnScope ["what", "mover", "name", "long", "way", "kept", "answer", "e"] ["what", "mover", "name", "long", "way"] (defScope s_u_law_do_r) := ⟨rfl, rfl, rfl, by decide +kernel, rfl, by decide +kernel, by decide +kernel⟩
theorem ok_u_law_do_r {P : Program} {w : World} {K : PySem.W.Frag} {mg : Str → Option Value} {base : Heap} {f : Addr} {fd : FuncData} (F : FunD K (Str.ofString "_law_do") (Str.ofString "_law_do") (defArgs s_u_law_do_r) (defBody s_u_law_do_r) (defScope s_u_law_do_r) [] [] f fd) (hm : mg (Str.ofString "_law_do") = some (.ref f)) (zb : Bts mg) (zx : ErrX K mg ecs exs) (k_Mover : Cls K (He.ga K (Str.ofString "Mover"))) (f_Mover_o_u__init_u_ : ClsM P w K mg base 5 (Str.ofString "Mover") 3 F_Mover_o_u__init_u_) (f_Mover_o_call : FnMm P w K mg base 7 (Str.ofString "Mover") (Str.ofString "call") 4 F_Mover_o_call) (f_Mover_o_go_on : FnMm P w K mg base 4 (Str.ofString "Mover") (Str.ofString "go_on") 2 F_Mover_o_go_on) (f_Mover_o_goal : FnRm P w K mg base 1 (Str.ofString "Mover") (Str.ofString "goal") 1 F_Mover_o_goal) (f_u_law_word : Fn P w K mg base 1 (Str.ofString "_law_word") 1 F_u_law_word) : FnRf P w K mg base 8 (Str.ofString "_law_do") 5 F_u_law_do_r :=
  fnR_def (N := ["what", "mover", "name", "long", "way", "kept", "answer", "e"]) (ps := ["what", "mover", "name", "long", "way"]) (k := 7) (fb := B_u_law_do_r) F hm sc_u_law_do_r (fun _ _ _ _ _ _ us hl => match us, hl with | [_, _, _, _, _], _ => rfl) (fun cdv A outer s H E C =>
    (sss_cons (ss_set 5 C.nd ev_non)
    (sss_cons (ss_set 6 C.nd ev_non)
    (sss_cons (ss_try 7 5 ecs C rfl rfl rfl zx.bl (by rfl) zx.cat (fun W pn xe C => (sss1_one (ss1_if (et_cmp (op_eqD C.hr.units) ops_eqD (ev_var 0) ev_int (nomark _)) (sss1_one (ss1_set 6 C.nd (EVM.toE (evm_meth k_Mover f_Mover_o_call C.hr C.hx (ev_var 1) (eao_cons (ev_var 2) (eao_cons (ev_var 3) (eao_cons (ev_var 4) eao_nil))))))) (sss1_one (ss1_set 6 C.nd (EVM.toE (evm_if (et_cmp (op_eqD C.hr.units) ops_eqD (ev_var 0) ev_int (nomark _)) (evm_meth k_Mover f_Mover_o_go_on C.hr C.hx (ev_var 1) (eao_cons (ev_var 3) eao_nil)) (evm_methR0M k_Mover f_Mover_o_goal C.hr C.hx (evm_make f_Mover_o_u__init_u_ C.hr C.hx (by rfl) (eao_cons (ev_var 1) (eao_cons (ev_var 2) eao_nil))))))))))))
    (sss_cons (ss_if (et_cmp op_isD ops_isD (ev_var 5) ev_non (nomark _)) (sss_one (ss_ret (ev_var 6))) sss_nil)
    (sss_one (ss_ret (ev_call f_u_law_word C.hr C.hx (by rfl) (ea_cons (ev_var 5) ea_nil)))))))))
theorem sc_u_law_refuses : FnScope ["book", "mover", "name", "odd", "row"] ["book", "mover"] (defScope s_u_law_refuses) := ⟨rfl, rfl, rfl, by decide +kernel, rfl, by decide +kernel, by decide +kernel⟩
theorem ok_u_law_refuses {P : Program} {w : World} {K : PySem.W.Frag} {mg : Str → Option Value} {base : Heap} {f : Addr} {fd : FuncData} (F : FunD K (Str.ofString "_law_refuses") (Str.ofString "_law_refuses") (defArgs s_u_law_refuses) (defBody s_u_law_refuses) (defScope s_u_law_refuses) [] [] f fd) (hm : mg (Str.ofString "_law_refuses") = some (.ref f)) (zb : Bts mg) (f_u_law_do_r : FnRf P w K mg base 8 (Str.ofString "_law_do") 5 F_u_law_do_r) : FnRf P w K mg base 9 (Str.ofString "_law_refuses") 2 F_u_law_refuses :=
  fnR_def (N := ["book", "mover", "name", "odd", "row"]) (ps := ["book", "mover"]) (k := 8) (fb := B_u_law_refuses) F hm sc_u_law_refuses (fun _ _ _ _ _ _ us hl => match us, hl with | [_, _], _ => rfl) (fun cdv A outer s H E C =>
    (sss_cons (ss_set 2 C.nd (ev_ix (ev_ix (ev_var 0) ev_int) ev_int))
    (sss_cons (ss_setN 3 C.nd (en_lst (ea_cons (ev_tup (ea_cons ev_int (ea_cons ev_str (ea_cons ev_non (ea_cons ev_non (ea_cons ev_str ea_nil)))))) (ea_cons (ev_tup (ea_cons ev_int (ea_cons ev_non (ea_cons (ev_tup (ea_cons ev_int (ea_cons ev_int ea_nil))) (ea_cons ev_str (ea_cons ev_str ea_nil)))))) ea_nil))))
    (sss_cons (ss_ext 3 (EN.ev (en_lst (ea_cons (ev_tup (ea_cons ev_int (ea_cons (ev_var 2) (ea_cons (ev_tup (ea_cons (ev_neg ev_int) (ea_cons ev_int ea_nil))) (ea_cons ev_non (ea_cons ev_str ea_nil)))))) ea_nil))))
    (sss_cons (ss_ext 3 (EN.ev (en_lst (ea_cons (ev_tup (ea_cons ev_int (ea_cons (ev_var 2) (ea_cons ev_non (ea_cons ev_non (ea_cons ev_str ea_nil)))))) (ea_cons (ev_tup (ea_cons ev_int (ea_cons (ev_var 2) (ea_cons (ev_tup (ea_cons ev_int (ea_cons ev_int ea_nil))) (ea_cons ev_str (ea_cons ev_str ea_nil)))))) ea_nil)))))
    (sss_cons (ss_ext 3 (EN.ev (en_lst (ea_cons (ev_tup (ea_cons ev_int (ea_cons (ev_var 2) (ea_cons ev_int (ea_cons ev_str (ea_cons ev_str ea_nil)))))) ea_nil))))
    (sss_cons (ss_ext 3 (EN.ev (en_lst (ea_cons (ev_tup (ea_cons ev_int (ea_cons (ev_var 2) (ea_cons (ev_tup (ea_cons ev_int (ea_cons ev_int ea_nil))) (ea_cons ev_str (ea_cons ev_str ea_nil)))))) (ea_cons (ev_tup (ea_cons ev_int (ea_cons (ev_var 2) (ea_cons (ev_tup (ea_cons ev_int (ea_cons ev_int ea_nil))) (ea_cons ev_non (ea_cons ev_str ea_nil)))))) ea_nil)))))
    (sss_cons (ss_ext 3 (EN.ev (en_lst (ea_cons (ev_tup (ea_cons ev_int (ea_cons (ev_var 2) (ea_cons (ev_tup (ea_cons ev_int (ea_cons ev_int ea_nil))) (ea_cons (ev_tup (ea_cons ev_str ea_nil)) (ea_cons ev_str ea_nil)))))) ea_nil))))
    (sss_cons (ss_ext 3 (EN.ev (en_lst (ea_cons (ev_tup (ea_cons ev_int (ea_cons ev_non (ea_cons (ev_tup (ea_cons (ev_neg ev_int) (ea_cons ev_int ea_nil))) (ea_cons ev_non (ea_cons ev_str ea_nil)))))) (ea_cons (ev_tup (ea_cons ev_int (ea_cons ev_non (ea_cons ev_non (ea_cons ev_non (ea_cons ev_str ea_nil)))))) ea_nil)))))
    (sss_cons (ss_ext 3 (EN.ev (en_lst (ea_cons (ev_tup (ea_cons ev_int (ea_cons ev_non (ea_cons (ev_tup (ea_cons ev_int (ea_cons ev_int ea_nil))) (ea_cons ev_non (ea_cons ev_str ea_nil)))))) ea_nil))))
    (sss_one (ss_ret (ev_cmp (op_eqD C.hr.units) ops_eqD (EN.ev (en_lc [("row", 4)] C.hc C.nd (ei_seq (ev_var 3)) (blkOk_by (by kernel_rfl)) (fun _ _ _ _ _ => (eg_name 4 C.nd)) (fun _ _ _ _ _ => (ets_one (et_cmp (op_neD C.hr.units) ops_neD (ev_callR f_u_law_do_r C.hr passZ (by rfl) (eao_cons (ev_ix (ev_var 4) ev_int) (eao_cons (ev_var 1) (eao_cons (ev_ix (ev_var 4) ev_int) (eao_cons (ev_ix (ev_var 4) ev_int) (eao_cons (ev_ix (ev_var 4) ev_int) eao_nil)))))) (ev_ix (ev_var 4) ev_int) (nomark _)))) (fun _ _ _ _ _ => (ev_var 4)))) (EN.ev (en_lst ea_nil)) (nomark _))))))))))))))
theorem sc_law : FnScope ["script", "book", "goal", "k", "mover", "twin", "start", "now", "begun", "long", "way", "here", "shares", "rest", "told", "call", "gone", "first", "steps", "name", "one"] ["script"] (defScope s_law) := ⟨rfl, rfl, rfl, by decide +kernel, rfl, by decide +kernel, by decide +kernel⟩
theorem okl_law {P : Program} {w : World} {K : PySem.W.Frag} {mg : Str → Option Value} {base : Heap} {f : Addr} {fd : FuncData} (F : FunD K (Str.ofString "law") (Str.ofString "law") (defArgs s_law) (defBody s_law) (defScope s_law) [] [] f fd) (zb : Bts mg) (k_Mover : Cls K (He.ga K (Str.ofString "Mover"))) (f_Mover_o_u__init_u_ : ClsM P w K mg base 5 (Str.ofString "Mover") 3 F_Mover_o_u__init_u_) (f_Mover_o_goal : FnRm P w K mg base 1 (Str.ofString "Mover") (Str.ofString "goal") 1 F_Mover_o_goal) (f_Mover_o_left : FnRm P w K mg base 4 (Str.ofString "Mover") (Str.ofString "left") 1 F_Mover_o_left) (f_Mover_o_shares : FnRm P w K mg base 6 (Str.ofString "Mover") (Str.ofString "shares") 1 F_Mover_o_shares) (f_Mover_o_time : FnRm P w K mg base 1 (Str.ofString "Mover") (Str.ofString "time") 1 F_Mover_o_time) (f_Mover_o_worths : FnRm P w K mg base 7 (Str.ofString "Mover") (Str.ofString "worths") 1 F_Mover_o_worths) (f_u_law_book : Fn P w K mg base 3 (Str.ofString "_law_book") 2 F_u_law_book) (f_u_law_call : Fn P w K mg base 3 (Str.ofString "_law_call") 3 F_u_law_call) (f_u_law_do : FnMf P w K mg base 8 (Str.ofString "_law_do") 5 F_u_law_do) (f_u_law_do_r : FnRf P w K mg base 8 (Str.ofString "_law_do") 5 F_u_law_do_r) (f_u_law_eased : Fn P w K mg base 2 (Str.ofString "_law_eased") 3 F_u_law_eased) (f_u_law_led : Fn P w K mg base 4 (Str.ofString "_law_led") 3 F_u_law_led) (f_u_law_less : Fn P w K mg base 2 (Str.ofString "_law_less") 2 F_u_law_less) (f_u_law_low : Fn P w K mg base 1 (Str.ofString "_law_low") 2 F_u_law_low) (f_u_law_pick : Fn P w K mg base 2 (Str.ofString "_law_pick") 3 F_u_law_pick) (f_u_law_refuses : FnRf P w K mg base 9 (Str.ofString "_law_refuses") 2 F_u_law_refuses) (f_u_law_sum : Fn P w K mg base 2 (Str.ofString "_law_sum") 1 F_u_law_sum) (f_u_law_time : Fn P w K mg base 3 (Str.ofString "_law_time") 2 F_u_law_time) (f_u_law_worths : Fn P w K mg base 3 (Str.ofString "_law_worths") 2 F_u_law_worths) (f_are_shares : Fn P w K mg base 6 (Str.ofString "are_shares") 2 F_are_shares) : FnOk P w K mg base (L2.CX P w) 10 f fd ["script"] (spF K mg 1 F_law) :=
  fn_okO (N := ["script", "book", "goal", "k", "mover", "twin", "start", "now", "begun", "long", "way", "here", "shares", "rest", "told", "call", "gone", "first", "steps", "name", "one"]) (ps := ["script"]) (k := 9) (fb := B_law) F sc_law (fun cdv A outer s H E C =>
    (sss_cons (ss_set 1 C.nd (ev_call f_u_law_book C.hr C.hx (by rfl) (ea_cons (ev_var 0) (ea_cons ev_int ea_nil))))
    (sss_cons (ss_set 2 C.nd (ev_ix (ev_ix (ev_wk (ev_var 1)) (ev_call f_u_law_pick C.hr C.hx (by rfl) (ea_cons (ev_var 0) (ea_cons ev_int (ea_cons (ev_callB call_lenD cs_lenD (by rfl) zb.len (by decide +kernel) (eb_cons (ev_wk (ev_var 1)) eb_nil)) ea_nil))))) ev_int))
    (sss_cons (ss_parXX 4 5 C.hc C.nd (exx_cons (EVM.x (evm_make f_Mover_o_u__init_u_ C.hr C.hx (by rfl) (eao_cons (ev_wk (ev_var 1)) (eao_cons (ev_var 2) eao_nil)))) (exx_cons (EVM.x (evm_make f_Mover_o_u__init_u_ C.hr C.hx (by rfl) (eao_cons (ev_wk (ev_var 1)) (eao_cons (ev_var 2) eao_nil)))) (EX.x ex_nil))))
    (sss_cons (ss_asg (ev_tup (ea_cons (EN.ev (en_lst (ea_cons (ev_tup (ea_cons (ev_var 2) (ea_cons (ev_tup (ea_cons ev_int (ea_cons ev_int ea_nil))) ea_nil))) ea_nil))) (ea_cons (ev_tup (ea_cons ev_int (ea_cons ev_int ea_nil))) (ea_cons (ev_tup (ea_cons ev_int (ea_cons ev_int ea_nil))) (ea_cons (ev_tup (ea_cons ev_int (ea_cons ev_int ea_nil))) (ea_cons ev_str ea_nil)))))) (eg_tup C.hc (egs_cons (eg_name 6 C.nd) (egs_cons (eg_name 7 C.nd) (egs_cons (eg_name 8 C.nd) (egs_cons (eg_name 9 C.nd) (egs_cons (eg_name 10 C.nd) egs_nil)))))))
    (sss_cons (ss_for C.po C.hc (ei_range1 (by rfl) zb.range (ea_cons (ev_op op_addD ops_addD ev_int (ev_call f_u_law_pick C.hr C.hx (by rfl) (ea_cons (ev_var 0) (ea_cons ev_int (ea_cons ev_int ea_nil))))) ea_nil)) (eg_name 3 C.nd) (sss_cons (ss_set 11 C.nd (ev_op op_addD ops_addD ev_int (ev_op op_mulD ops_mulD ev_int (ev_var 3))))
    (sss_cons (ss_set 12 C.nd (ev_call f_u_law_led C.hr C.hx (by rfl) (ea_cons (ev_var 6) (ea_cons (EN.ev (en_lst (ea_cons (ev_tup (ea_cons (ev_var 2) (ea_cons (ev_tup (ea_cons ev_int (ea_cons ev_int ea_nil))) ea_nil))) ea_nil))) (ea_cons (ev_call f_u_law_eased C.hr C.hx (by rfl) (ea_cons (ev_var 10) (ea_cons (ev_call f_u_law_less C.hr C.hx (by rfl) (ea_cons (ev_var 7) (ea_cons (ev_var 8) ea_nil))) (ea_cons (ev_var 9) ea_nil)))) ea_nil)))))
    (sss_cons (ss_set 13 C.nd (ev_call f_u_law_less C.hr C.hx (by rfl) (ea_cons (ev_call f_u_law_sum C.hr C.hx (by rfl) (ea_cons (EN.ev (en_lst (ea_cons (ev_var 8) (ea_cons (ev_var 9) ea_nil)))) ea_nil)) (ea_cons (ev_var 7) ea_nil))))
    (sss_cons (ss_set 14 C.nd (EN.ev (en_lst (ea_cons (ev_methR0 k_Mover f_Mover_o_shares C.hr C.hx (ev_var 4)) (ea_cons (ev_methR0 k_Mover f_Mover_o_time C.hr C.hx (ev_var 4)) (ea_cons (ev_methR0 k_Mover f_Mover_o_goal C.hr C.hx (ev_var 4)) (ea_cons (ev_methR0 k_Mover f_Mover_o_left C.hr C.hx (ev_var 4)) (ea_cons (ev_methR0 k_Mover f_Mover_o_worths C.hr C.hx (ev_var 4)) ea_nil))))))))
    (sss_cons (ss_if (et_cmp (op_neD C.hr.units) ops_neD (ev_var 14) (EN.ev (en_lst (ea_cons (ev_var 12) (ea_cons (ev_var 7) (ea_cons (ev_var 2) (ea_cons (ev_if (et_cmp op_gt ops_gtI (ev_ix (ev_var 13) ev_int) ev_int (nomark _)) (ev_var 13) (ev_tup (ea_cons ev_int (ea_cons ev_int ea_nil)))) (ea_cons (ev_call f_u_law_worths C.hr C.hx (by rfl) (ea_cons (ev_var 1) (ea_cons (ev_var 12) ea_nil))) ea_nil))))))) (nomark _)) (sss_one (ss_ret ev_bl)) sss_nil)
    (sss_cons (ss_if (EW.et (ew_or (et_cmp (op_neD C.hr.units) ops_neD (ev_methR0 k_Mover f_Mover_o_shares C.hr C.hx (ev_var 5)) (ev_var 12) (nomark _)) (ew_or (et_cmp (op_neD C.hr.units) ops_neD (ev_methR0 k_Mover f_Mover_o_time C.hr C.hx (ev_var 5)) (ev_var 7) (nomark _)) (ew_or1 (et_not (et_val (ev_call f_are_shares C.hr C.hx (by rfl) (ea_cons (ev_wk (ev_var 1)) (ea_cons (ev_var 12) ea_nil))))))))) (sss_one (ss_ret ev_bl)) sss_nil)
    (sss_cons (ss_if (EW.et (ew_or (EW.et (ew_and (et_cmp op_leD ops_leD (ev_ix (ev_var 13) ev_int) ev_int (nomark _)) (ew_and1 (et_cmp (op_neD C.hr.units) ops_neD (ev_var 12) (EN.ev (en_lst (ea_cons (ev_tup (ea_cons (ev_var 2) (ea_cons (ev_tup (ea_cons ev_int (ea_cons ev_int ea_nil))) ea_nil))) ea_nil))) (nomark _))))) (ew_or1 (et_not (et_val (ev_callR f_u_law_refuses C.hr C.hx (by rfl) (eao_cons (ev_wk (ev_var 1)) (eao_cons (ev_var 4) eao_nil)))))))) (sss_one (ss_ret ev_bl)) sss_nil)
    (sss_one (ss_if (et_cmp (op_eqD C.hr.units) ops_eqD (ev_call f_u_law_pick C.hr C.hx (by rfl) (ea_cons (ev_var 0) (ea_cons (ev_var 11) (ea_cons ev_int ea_nil)))) ev_int (nomark _)) (sss_cons (ss_set 15 C.nd (ev_call f_u_law_call C.hr C.hx (by rfl) (ea_cons (ev_var 0) (ea_cons (ev_op op_addD ops_addD (ev_var 11) ev_int) (ea_cons (ev_wk (ev_var 1)) ea_nil)))))
    (sss_cons (ss_par 6 8 C.hc C.nd (ea_cons (ev_var 12) (ea_cons (ev_var 7) ea_nil)))
    (sss_cons (ss_asg (ev_var 15) (eg_tup C.hc (egs_cons (eg_name 2 C.nd) (egs_cons (eg_name 9 C.nd) (egs_cons (eg_name 10 C.nd) egs_nil)))))
    (sss_one (ss_ifX (etx_cmp (op_neD C.hr.units) ops_neD (ENX.x (enx_lcM [("one", 20)] C.hc C.nd (ei_seq (ev_tupO (eao_cons (ev_var 4) (eao_cons (ev_var 5) eao_nil)))) (blkOk_by (by kernel_rfl)) (fun _ _ _ _ _ => (eg_name 20 C.nd)) (fun _ _ _ _ _ => (evm_call f_u_law_do C.hr passZ (by rfl) (eao_cons ev_int (eao_cons (ev_var 20) (eao_cons (ev_var 2) (eao_cons (ev_var 9) (eao_cons (ev_var 10) eao_nil))))))))) (EV.x (EN.ev (en_lst (ea_cons ev_non (ea_cons ev_non ea_nil))))) (nomark _)) (sss_one (ss_ret ev_bl)) sss_nil))))) (sss_cons (ss_set 16 C.nd (ev_call f_u_law_time C.hr C.hx (by rfl) (ea_cons (ev_var 0) (ea_cons (ev_op op_addD ops_addD (ev_var 11) ev_int) ea_nil))))
    (sss_cons (ss_set 7 C.nd (ev_call f_u_law_sum C.hr C.hx (by rfl) (ea_cons (EN.ev (en_lst (ea_cons (ev_var 7) (ea_cons (ev_var 16) ea_nil)))) ea_nil)))
    (sss_cons (ss_set 17 C.nd (ev_call f_u_law_low C.hr C.hx (by rfl) (ea_cons (ev_op op_mulD ops_mulD (ev_ix (ev_var 16) ev_int) (ev_call f_u_law_pick C.hr C.hx (by rfl) (ea_cons (ev_var 0) (ea_cons (ev_op op_addD ops_addD (ev_var 11) ev_int) (ea_cons ev_int ea_nil))))) (ea_cons (ev_op op_mulD ops_mulD (ev_ix (ev_var 16) ev_int) ev_int) ea_nil))))
    (sss_cons (ss_setX 18 C.nd (ENX.x (enx_lst (eax_cons (EVM.x (evm_call f_u_law_do C.hr C.hx (by rfl) (eao_cons ev_int (eao_cons (ev_var 4) (eao_cons ev_non (eao_cons (ev_var 16) (eao_cons ev_non eao_nil))))))) (eax_cons (EVM.x (evm_call f_u_law_do C.hr C.hx (by rfl) (eao_cons ev_int (eao_cons (ev_var 5) (eao_cons ev_non (eao_cons (ev_var 17) (eao_cons ev_non eao_nil))))))) eax_nil)))))
    (sss_one (ss_ifX (etx_cmp (op_neD C.hr.units) ops_neD (evx_op op_addD ops_addD (EV.x (ev_var 18)) (ENX.x (enx_lst (eax_cons (EVM.x (evm_call f_u_law_do C.hr C.hx (by rfl) (eao_cons ev_int (eao_cons (ev_var 5) (eao_cons ev_non (eao_cons (ev_call f_u_law_less C.hr C.hx (by rfl) (ea_cons (ev_var 16) (ea_cons (ev_var 17) ea_nil))) (eao_cons ev_non eao_nil))))))) eax_nil)))) (EV.x (ev_op op_mulD ops_mulD (EN.ev (en_lst (ea_cons ev_non ea_nil))) ev_int)) (nomark _)) (sss_one (ss_ret ev_bl)) sss_nil))))))))))))))))
    (sss_cons (ss_if (et_cmp (op_neD C.hr.units) ops_neD (EN.ev (en_lc [("name", 19)] C.hc C.nd (ei_seq (ev_tup (ea_cons (ev_var 2) (ea_cons ev_non ea_nil)))) (blkOk_by (by kernel_rfl)) (fun _ _ _ _ _ => (eg_name 19 C.nd)) (fun _ _ _ _ _ => ets_nil) (fun _ _ _ _ _ => (ev_callR f_u_law_do_r C.hr passZ (by rfl) (eao_cons ev_int (eao_cons ev_non (eao_cons (ev_var 19) (eao_cons ev_non (eao_cons ev_non eao_nil))))))))) (ev_op op_mulD ops_mulD (EN.ev (en_lst (ea_cons ev_str ea_nil))) ev_int) (nomark _)) (sss_one (ss_ret ev_bl)) sss_nil)
    (sss_one (ss_ret (ev_cmp (op_eqD C.hr.units) ops_eqD (EN.ev (en_lc [("name", 19)] C.hc C.nd (ei_seq (ev_tup (ea_cons ev_str (ea_cons ev_non (ea_cons (ev_tup (ea_cons (ev_var 2) ea_nil)) ea_nil))))) (blkOk_by (by kernel_rfl)) (fun _ _ _ _ _ => (eg_name 19 C.nd)) (fun _ _ _ _ _ => ets_nil) (fun _ _ _ _ _ => (ev_callR f_u_law_do_r C.hr passZ (by rfl) (eao_cons ev_int (eao_cons (ev_wk (ev_var 1)) (eao_cons (ev_var 19) (eao_cons ev_non (eao_cons ev_non eao_nil))))))))) (ev_op op_mulD ops_mulD (EN.ev (en_lst (ea_cons ev_str ea_nil))) ev_int) (nomark _)))))))))))
end PL.W50
end
section
open PySem PySem.Spec PyProof.Rows L2 PL.G
namespace PL.W50
theorem facts {P : Program} {w : World} {K : PySem.W.Frag} {h : Heap} {mg : Str → Option Value} {f : Addr} (X : K.In h) (G : h.Ns mainGlobals mg) (hfa : mg (Str.ofString "law") = some (.ref f)) (tu : tupsB tups K = true) (c : He.SaysD fas fns K) :
    ∃ fd : FuncData, (∀ (s : Shared) (v : Value), BindsTo s fd ⟨[v], []⟩ [("script", v)]) ∧ ∀ base : Heap, K.In base → base.Ns mainGlobals mg → FnOk P w K mg base (L2.CX P w) 10 f fd ["script"] (spF K mg 1 F_law) := by
  have zb := bts_of X G (fun f hf => facts_of c f (List.mem_append_right _ (List.mem_append_left _ hf)))
  have zx : ErrX K mg ecs exs := errx_of X G (fun f hf => facts_of c f (List.mem_append_right _ (List.mem_append_right _ hf))) tu (List.mem_of_getElem? (i := 3) rfl)
  obtain ⟨fd_is_whole, D_is_whole⟩ := c.def_ 0 (d := dd_is_whole) rfl
  obtain ⟨fd_greatest_in, D_greatest_in⟩ := c.def_ 1 (d := dd_greatest_in) rfl
  obtain ⟨fd_is_less, D_is_less⟩ := c.def_ 2 (d := dd_is_less) rfl
  obtain ⟨fd_is_name, D_is_name⟩ := c.def_ 3 (d := dd_is_name) rfl
  obtain ⟨fd_stand_in, D_stand_in⟩ := c.def_ 4 (d := dd_stand_in) rfl
  obtain ⟨fd_is_way, D_is_way⟩ := c.def_ 5 (d := dd_is_way) rfl
  obtain ⟨fd_Mover_o_time, D_Mover_o_time⟩ := c.def_ 6 (d := dd_Mover_o_time) rfl
  obtain ⟨fd_Mover_o_goal, D_Mover_o_goal⟩ := c.def_ 7 (d := dd_Mover_o_goal) rfl
  obtain ⟨fd_u_law_cell, D_u_law_cell⟩ := c.def_ 8 (d := dd_u_law_cell) rfl
  obtain ⟨fd_u_law_word, D_u_law_word⟩ := c.def_ 9 (d := dd_u_law_word) rfl
  obtain ⟨fd_u_law_low, D_u_law_low⟩ := c.def_ 10 (d := dd_u_law_low) rfl
  obtain ⟨fd_u_law_names, D_u_law_names⟩ := c.def_ 11 (d := dd_u_law_names) rfl
  obtain ⟨fd_share, D_share⟩ := c.def_ 12 (d := dd_share) rfl
  obtain ⟨fd_is_fraction, D_is_fraction⟩ := c.def_ 13 (d := dd_is_fraction) rfl
  obtain ⟨fd_is_stand, D_is_stand⟩ := c.def_ 14 (d := dd_is_stand) rfl
  obtain ⟨fd_has_name, D_has_name⟩ := c.def_ 15 (d := dd_has_name) rfl
  obtain ⟨fd_u_law_pick, D_u_law_pick⟩ := c.def_ 16 (d := dd_u_law_pick) rfl
  obtain ⟨fd_u_law_sum, D_u_law_sum⟩ := c.def_ 17 (d := dd_u_law_sum) rfl
  obtain ⟨fd_u_law_eased, D_u_law_eased⟩ := c.def_ 18 (d := dd_u_law_eased) rfl
  obtain ⟨fd_u_law_less, D_u_law_less⟩ := c.def_ 19 (d := dd_u_law_less) rfl
  obtain ⟨fd_plus, D_plus⟩ := c.def_ 20 (d := dd_plus) rfl
  obtain ⟨fd_minus, D_minus⟩ := c.def_ 21 (d := dd_minus) rfl
  obtain ⟨fd_times, D_times⟩ := c.def_ 22 (d := dd_times) rfl
  obtain ⟨fd_parted, D_parted⟩ := c.def_ 23 (d := dd_parted) rfl
  obtain ⟨fd_is_book, D_is_book⟩ := c.def_ 24 (d := dd_is_book) rfl
  obtain ⟨fd_look_name, D_look_name⟩ := c.def_ 25 (d := dd_look_name) rfl
  obtain ⟨fd_is_time, D_is_time⟩ := c.def_ 26 (d := dd_is_time) rfl
  obtain ⟨fd_u_law_book, D_u_law_book⟩ := c.def_ 27 (d := dd_u_law_book) rfl
  obtain ⟨fd_u_law_shares, D_u_law_shares⟩ := c.def_ 28 (d := dd_u_law_shares) rfl
  obtain ⟨fd_u_law_gathered, D_u_law_gathered⟩ := c.def_ 29 (d := dd_u_law_gathered) rfl
  obtain ⟨fd_u_law_worths, D_u_law_worths⟩ := c.def_ 30 (d := dd_u_law_worths) rfl
  obtain ⟨fd_u_law_time, D_u_law_time⟩ := c.def_ 31 (d := dd_u_law_time) rfl
  obtain ⟨fd_u_law_call, D_u_law_call⟩ := c.def_ 32 (d := dd_u_law_call) rfl
  obtain ⟨fd_summed, D_summed⟩ := c.def_ 33 (d := dd_summed) rfl
  obtain ⟨fd_look_book, D_look_book⟩ := c.def_ 34 (d := dd_look_book) rfl
  obtain ⟨fd_gathered, D_gathered⟩ := c.def_ 35 (d := dd_gathered) rfl
  obtain ⟨fd_eased, D_eased⟩ := c.def_ 36 (d := dd_eased) rfl
  obtain ⟨fd_Mover_o_part, D_Mover_o_part⟩ := c.def_ 37 (d := dd_Mover_o_part) rfl
  obtain ⟨fd_Mover_o_go_on, D_Mover_o_go_on⟩ := c.def_ 38 (d := dd_Mover_o_go_on) rfl
  obtain ⟨fd_Mover_o_left, D_Mover_o_left⟩ := c.def_ 39 (d := dd_Mover_o_left) rfl
  obtain ⟨fd_u_law_led, D_u_law_led⟩ := c.def_ 40 (d := dd_u_law_led) rfl
  obtain ⟨fd_are_shares_in, D_are_shares_in⟩ := c.def_ 41 (d := dd_are_shares_in) rfl
  obtain ⟨fd_worths_of, D_worths_of⟩ := c.def_ 42 (d := dd_worths_of) rfl
  obtain ⟨fd_led_over, D_led_over⟩ := c.def_ 43 (d := dd_led_over) rfl
  obtain ⟨fd_Mover_o_u__init_u_, D_Mover_o_u__init_u_⟩ := c.def_ 44 (d := dd_Mover_o_u__init_u_) rfl
  obtain ⟨fd_are_shares, D_are_shares⟩ := c.def_ 45 (d := dd_are_shares) rfl
  obtain ⟨fd_Mover_o_shares, D_Mover_o_shares⟩ := c.def_ 46 (d := dd_Mover_o_shares) rfl
  obtain ⟨fd_Mover_o_call, D_Mover_o_call⟩ := c.def_ 47 (d := dd_Mover_o_call) rfl
  obtain ⟨fd_Mover_o_worths, D_Mover_o_worths⟩ := c.def_ 48 (d := dd_Mover_o_worths) rfl
  obtain ⟨fd_u_law_do, D_u_law_do⟩ := c.def_ 49 (d := dd_u_law_do) rfl
  obtain ⟨fd_u_law_refuses, D_u_law_refuses⟩ := c.def_ 50 (d := dd_u_law_refuses) rfl
  obtain ⟨fd_law, D_law⟩ := c.def_ 51 (d := dd_law) rfl
  have k_Mover : Cls K (He.ga K (Str.ofString "Mover")) := He.cls_ok (c.fact 53 (f := .cls (Str.ofString "Mover")) rfl)
  have n_Mover_begun : NoAttr K (He.ga K (Str.ofString "Mover")) (Str.ofString "begun") := He.noat_ok (c.fact 54 (f := .noat (Str.ofString "Mover") (Str.ofString "begun")) rfl)
  have n_Mover_end : NoAttr K (He.ga K (Str.ofString "Mover")) (Str.ofString "end") := He.noat_ok (c.fact 55 (f := .noat (Str.ofString "Mover") (Str.ofString "end")) rfl)
  have n_Mover_known : NoAttr K (He.ga K (Str.ofString "Mover")) (Str.ofString "known") := He.noat_ok (c.fact 56 (f := .noat (Str.ofString "Mover") (Str.ofString "known")) rfl)
  have n_Mover_long : NoAttr K (He.ga K (Str.ofString "Mover")) (Str.ofString "long") := He.noat_ok (c.fact 57 (f := .noat (Str.ofString "Mover") (Str.ofString "long")) rfl)
  have n_Mover_now : NoAttr K (He.ga K (Str.ofString "Mover")) (Str.ofString "now") := He.noat_ok (c.fact 58 (f := .noat (Str.ofString "Mover") (Str.ofString "now")) rfl)
  have n_Mover_start : NoAttr K (He.ga K (Str.ofString "Mover")) (Str.ofString "start") := He.noat_ok (c.fact 59 (f := .noat (Str.ofString "Mover") (Str.ofString "start")) rfl)
  have n_Mover_way : NoAttr K (He.ga K (Str.ofString "Mover")) (Str.ofString "way") := He.noat_ok (c.fact 60 (f := .noat (Str.ofString "Mover") (Str.ofString "way")) rfl)
  have e_NoBook : ErrC K mg (Str.ofString "NoBook") := err_of X G (c.fact 61 (f := .glo (Str.ofString "NoBook")) rfl) (c.fact 62 (f := .exc (Str.ofString "NoBook")) rfl)
  have e_NoNumber : ErrC K mg (Str.ofString "NoNumber") := err_of X G (c.fact 63 (f := .glo (Str.ofString "NoNumber")) rfl) (c.fact 64 (f := .exc (Str.ofString "NoNumber")) rfl)
  have e_NoStand : ErrC K mg (Str.ofString "NoStand") := err_of X G (c.fact 65 (f := .glo (Str.ofString "NoStand")) rfl) (c.fact 66 (f := .exc (Str.ofString "NoStand")) rfl)
  have e_NoWay : ErrC K mg (Str.ofString "NoWay") := err_of X G (c.fact 67 (f := .glo (Str.ofString "NoWay")) rfl) (c.fact 68 (f := .exc (Str.ofString "NoWay")) rfl)
  have c_FARTHEST : Kon K mg (Str.ofString "FARTHEST") d_FARTHEST := kon_int X G (c.fact 69 rfl)
  have c_LONGEST : Kon K mg (Str.ofString "LONGEST") d_LONGEST := kon_int X G (c.fact 70 rfl)
  have c_NOUGHT : Kon K mg (Str.ofString "NOUGHT") d_NOUGHT := kon_tup X G (c.fact 71 (f := .glo (Str.ofString "NOUGHT")) rfl) tu (List.mem_of_getElem? (i := 0) rfl) rfl
  have c_ONE : Kon K mg (Str.ofString "ONE") d_ONE := kon_tup X G (c.fact 72 (f := .glo (Str.ofString "ONE")) rfl) tu (List.mem_of_getElem? (i := 1) rfl) rfl
  have c_SMALL : Kon K mg (Str.ofString "SMALL") d_SMALL := kon_str X G (c.fact 73 rfl)
  have c_WAYS : Kon K mg (Str.ofString "WAYS") d_WAYS := kon_tup X G (c.fact 74 (f := .glo (Str.ofString "WAYS")) rfl) tu (List.mem_of_getElem? (i := 2) rfl) rfl
  have el := hfa.symm.trans (He.glo_ok X G (c.fact 51 (f := .glo (Str.ofString "law")) rfl))
  cases el
  have bl := FunD.bindsA (ps := ["script"]) D_law fun _ _ _ _ _ _ us hl => match us, hl with | [_], _ => rfl
  refine ⟨fd_law, fun s v => bl s [v] rfl, fun base _ _ => ?_⟩
  have f_is_whole : Fn P w K mg base 1 (Str.ofString "is_whole") 3 F_is_whole := ok_is_whole D_is_whole (He.glo_ok X G (c.fact 0 (f := .glo (Str.ofString "is_whole")) rfl)) zb
  have f_greatest_in : Fn P w K mg base 1 (Str.ofString "greatest_in") 2 F_greatest_in := ok_greatest_in D_greatest_in (He.glo_ok X G (c.fact 1 (f := .glo (Str.ofString "greatest_in")) rfl)) zb
  have f_is_less : Fn P w K mg base 1 (Str.ofString "is_less") 2 F_is_less := ok_is_less D_is_less (He.glo_ok X G (c.fact 2 (f := .glo (Str.ofString "is_less")) rfl)) zb
  have f_is_name : Fn P w K mg base 1 (Str.ofString "is_name") 1 F_is_name := ok_is_name D_is_name (He.glo_ok X G (c.fact 3 (f := .glo (Str.ofString "is_name")) rfl)) zb c_LONGEST c_SMALL
  have f_stand_in : Fn P w K mg base 1 (Str.ofString "stand_in") 2 F_stand_in := ok_stand_in D_stand_in (He.glo_ok X G (c.fact 4 (f := .glo (Str.ofString "stand_in")) rfl)) zb
  have f_is_way : Fn P w K mg base 1 (Str.ofString "is_way") 1 F_is_way := ok_is_way D_is_way (He.glo_ok X G (c.fact 5 (f := .glo (Str.ofString "is_way")) rfl)) zb c_WAYS
  have f_Mover_o_time : FnRm P w K mg base 1 (Str.ofString "Mover") (Str.ofString "time") 1 F_Mover_o_time := ok_Mover_o_time D_Mover_o_time (He.meth_ok (c.fact 6 (f := .meth (Str.ofString "Mover") (Str.ofString "time")) rfl)) zb k_Mover n_Mover_now
  have f_Mover_o_goal : FnRm P w K mg base 1 (Str.ofString "Mover") (Str.ofString "goal") 1 F_Mover_o_goal := ok_Mover_o_goal D_Mover_o_goal (He.meth_ok (c.fact 7 (f := .meth (Str.ofString "Mover") (Str.ofString "goal")) rfl)) zb k_Mover n_Mover_end
  have f_u_law_cell : Fn P w K mg base 1 (Str.ofString "_law_cell") 2 F_u_law_cell := ok_u_law_cell D_u_law_cell (He.glo_ok X G (c.fact 8 (f := .glo (Str.ofString "_law_cell")) rfl)) zb
  have f_u_law_word : Fn P w K mg base 1 (Str.ofString "_law_word") 1 F_u_law_word := ok_u_law_word D_u_law_word (He.glo_ok X G (c.fact 9 (f := .glo (Str.ofString "_law_word")) rfl)) zb zx
  have f_u_law_low : Fn P w K mg base 1 (Str.ofString "_law_low") 2 F_u_law_low := ok_u_law_low D_u_law_low (He.glo_ok X G (c.fact 10 (f := .glo (Str.ofString "_law_low")) rfl)) zb
  have f_u_law_names : Fn P w K mg base 1 (Str.ofString "_law_names") 1 F_u_law_names := ok_u_law_names D_u_law_names (He.glo_ok X G (c.fact 11 (f := .glo (Str.ofString "_law_names")) rfl)) zb
  have f_share : Fn P w K mg base 2 (Str.ofString "share") 2 F_share := ok_share D_share (He.glo_ok X G (c.fact 12 (f := .glo (Str.ofString "share")) rfl)) zb f_greatest_in
  have f_is_fraction : Fn P w K mg base 2 (Str.ofString "is_fraction") 1 F_is_fraction := ok_is_fraction D_is_fraction (He.glo_ok X G (c.fact 13 (f := .glo (Str.ofString "is_fraction")) rfl)) zb f_greatest_in
  have f_is_stand : Fn P w K mg base 2 (Str.ofString "is_stand") 1 F_is_stand := ok_is_stand D_is_stand (He.glo_ok X G (c.fact 14 (f := .glo (Str.ofString "is_stand")) rfl)) zb c_FARTHEST f_is_whole
  have f_has_name : Fn P w K mg base 2 (Str.ofString "has_name") 2 F_has_name := ok_has_name D_has_name (He.glo_ok X G (c.fact 15 (f := .glo (Str.ofString "has_name")) rfl)) zb f_is_name
  have f_u_law_pick : Fn P w K mg base 2 (Str.ofString "_law_pick") 3 F_u_law_pick := ok_u_law_pick D_u_law_pick (He.glo_ok X G (c.fact 16 (f := .glo (Str.ofString "_law_pick")) rfl)) zb f_u_law_cell
  have f_u_law_sum : Fn P w K mg base 2 (Str.ofString "_law_sum") 1 F_u_law_sum := ok_u_law_sum D_u_law_sum (He.glo_ok X G (c.fact 17 (f := .glo (Str.ofString "_law_sum")) rfl)) zb f_u_law_low
  have f_u_law_eased : Fn P w K mg base 2 (Str.ofString "_law_eased") 3 F_u_law_eased := ok_u_law_eased D_u_law_eased (He.glo_ok X G (c.fact 18 (f := .glo (Str.ofString "_law_eased")) rfl)) zb f_u_law_low
  have f_u_law_less : Fn P w K mg base 2 (Str.ofString "_law_less") 2 F_u_law_less := ok_u_law_less D_u_law_less (He.glo_ok X G (c.fact 19 (f := .glo (Str.ofString "_law_less")) rfl)) zb f_u_law_low
  have f_plus : Fn P w K mg base 3 (Str.ofString "plus") 2 F_plus := ok_plus D_plus (He.glo_ok X G (c.fact 20 (f := .glo (Str.ofString "plus")) rfl)) zb f_share
  have f_minus : Fn P w K mg base 3 (Str.ofString "minus") 2 F_minus := ok_minus D_minus (He.glo_ok X G (c.fact 21 (f := .glo (Str.ofString "minus")) rfl)) zb f_share
  have f_times : Fn P w K mg base 3 (Str.ofString "times") 2 F_times := ok_times D_times (He.glo_ok X G (c.fact 22 (f := .glo (Str.ofString "times")) rfl)) zb f_share
  have f_parted : Fn P w K mg base 3 (Str.ofString "parted") 2 F_parted := ok_parted D_parted (He.glo_ok X G (c.fact 23 (f := .glo (Str.ofString "parted")) rfl)) zb f_share
  have f_is_book : Fn P w K mg base 3 (Str.ofString "is_book") 1 F_is_book := ok_is_book D_is_book (He.glo_ok X G (c.fact 24 (f := .glo (Str.ofString "is_book")) rfl)) zb f_is_name f_is_stand
  have f_look_name : Fn P w K mg base 3 (Str.ofString "look_name") 2 F_look_name := ok_look_name D_look_name (He.glo_ok X G (c.fact 25 (f := .glo (Str.ofString "look_name")) rfl)) zb e_NoStand f_has_name
  have f_is_time : Fn P w K mg base 3 (Str.ofString "is_time") 1 F_is_time := ok_is_time D_is_time (He.glo_ok X G (c.fact 26 (f := .glo (Str.ofString "is_time")) rfl)) zb f_is_fraction
  have f_u_law_book : Fn P w K mg base 3 (Str.ofString "_law_book") 2 F_u_law_book := ok_u_law_book D_u_law_book (He.glo_ok X G (c.fact 27 (f := .glo (Str.ofString "_law_book")) rfl)) zb f_u_law_pick
  have f_u_law_shares : Fn P w K mg base 3 (Str.ofString "_law_shares") 3 F_u_law_shares := ok_u_law_shares D_u_law_shares (He.glo_ok X G (c.fact 28 (f := .glo (Str.ofString "_law_shares")) rfl)) zb f_u_law_low f_u_law_names f_u_law_pick
  have f_u_law_gathered : Fn P w K mg base 3 (Str.ofString "_law_gathered") 1 F_u_law_gathered := ok_u_law_gathered D_u_law_gathered (He.glo_ok X G (c.fact 29 (f := .glo (Str.ofString "_law_gathered")) rfl)) zb f_u_law_sum
  have f_u_law_worths : Fn P w K mg base 3 (Str.ofString "_law_worths") 2 F_u_law_worths := ok_u_law_worths D_u_law_worths (He.glo_ok X G (c.fact 30 (f := .glo (Str.ofString "_law_worths")) rfl)) zb f_u_law_sum
  have f_u_law_time : Fn P w K mg base 3 (Str.ofString "_law_time") 2 F_u_law_time := ok_u_law_time D_u_law_time (He.glo_ok X G (c.fact 31 (f := .glo (Str.ofString "_law_time")) rfl)) zb f_u_law_low f_u_law_pick
  have f_u_law_call : Fn P w K mg base 3 (Str.ofString "_law_call") 3 F_u_law_call := ok_u_law_call D_u_law_call (He.glo_ok X G (c.fact 32 (f := .glo (Str.ofString "_law_call")) rfl)) zb f_u_law_low f_u_law_pick
  have f_summed : Fn P w K mg base 4 (Str.ofString "summed") 1 F_summed := ok_summed D_summed (He.glo_ok X G (c.fact 33 (f := .glo (Str.ofString "summed")) rfl)) zb c_NOUGHT f_plus
  have f_look_book : Fn P w K mg base 4 (Str.ofString "look_book") 1 F_look_book := ok_look_book D_look_book (He.glo_ok X G (c.fact 34 (f := .glo (Str.ofString "look_book")) rfl)) zb e_NoBook f_is_book
  have f_gathered : Fn P w K mg base 4 (Str.ofString "gathered") 1 F_gathered := ok_gathered D_gathered (He.glo_ok X G (c.fact 35 (f := .glo (Str.ofString "gathered")) rfl)) zb c_NOUGHT f_plus
  have f_eased : Fn P w K mg base 4 (Str.ofString "eased") 2 F_eased := ok_eased D_eased (He.glo_ok X G (c.fact 36 (f := .glo (Str.ofString "eased")) rfl)) zb f_minus f_plus f_times
  have f_Mover_o_part : FnRm P w K mg base 4 (Str.ofString "Mover") (Str.ofString "part") 1 F_Mover_o_part := ok_Mover_o_part D_Mover_o_part (He.meth_ok (c.fact 37 (f := .meth (Str.ofString "Mover") (Str.ofString "part")) rfl)) zb c_ONE k_Mover n_Mover_begun n_Mover_long n_Mover_now f_is_less f_minus f_parted
  have f_Mover_o_go_on : FnMm P w K mg base 4 (Str.ofString "Mover") (Str.ofString "go_on") 2 F_Mover_o_go_on := ok_Mover_o_go_on D_Mover_o_go_on (He.meth_ok (c.fact 38 (f := .meth (Str.ofString "Mover") (Str.ofString "go_on")) rfl)) zb e_NoNumber k_Mover n_Mover_now f_is_time f_plus
  have f_Mover_o_left : FnRm P w K mg base 4 (Str.ofString "Mover") (Str.ofString "left") 1 F_Mover_o_left := ok_Mover_o_left D_Mover_o_left (He.meth_ok (c.fact 39 (f := .meth (Str.ofString "Mover") (Str.ofString "left")) rfl)) zb c_NOUGHT k_Mover n_Mover_begun n_Mover_long n_Mover_now f_minus f_plus
  have f_u_law_led : Fn P w K mg base 4 (Str.ofString "_law_led") 3 F_u_law_led := ok_u_law_led D_u_law_led (He.glo_ok X G (c.fact 40 (f := .glo (Str.ofString "_law_led")) rfl)) zb f_u_law_gathered f_u_law_low
  have f_are_shares_in : Fn P w K mg base 5 (Str.ofString "are_shares_in") 2 F_are_shares_in := ok_are_shares_in D_are_shares_in (He.glo_ok X G (c.fact 41 (f := .glo (Str.ofString "are_shares_in")) rfl)) zb c_ONE f_has_name f_is_fraction f_summed
  have f_worths_of : Fn P w K mg base 5 (Str.ofString "worths_of") 2 F_worths_of := ok_worths_of D_worths_of (He.glo_ok X G (c.fact 42 (f := .glo (Str.ofString "worths_of")) rfl)) zb f_stand_in f_summed f_times
  have f_led_over : Fn P w K mg base 5 (Str.ofString "led_over") 3 F_led_over := ok_led_over D_led_over (He.glo_ok X G (c.fact 43 (f := .glo (Str.ofString "led_over")) rfl)) zb c_ONE f_gathered f_minus f_times
  have f_Mover_o_u__init_u_ : ClsM P w K mg base 5 (Str.ofString "Mover") 3 F_Mover_o_u__init_u_ := ok_Mover_o_u__init_u_ D_Mover_o_u__init_u_ (He.mkr_ok (c.fact 44 (f := .mkr (Str.ofString "Mover")) rfl)) (He.glo_ok X G (c.fact 52 (f := .glo (Str.ofString "Mover")) rfl)) zb c_NOUGHT c_ONE k_Mover n_Mover_begun n_Mover_end n_Mover_known n_Mover_long n_Mover_now n_Mover_start n_Mover_way f_look_book f_look_name
  have f_are_shares : Fn P w K mg base 6 (Str.ofString "are_shares") 2 F_are_shares := ok_are_shares D_are_shares (He.glo_ok X G (c.fact 45 (f := .glo (Str.ofString "are_shares")) rfl)) zb f_are_shares_in f_look_book
  have f_Mover_o_shares : FnRm P w K mg base 6 (Str.ofString "Mover") (Str.ofString "shares") 1 F_Mover_o_shares := ok_Mover_o_shares D_Mover_o_shares (He.meth_ok (c.fact 46 (f := .meth (Str.ofString "Mover") (Str.ofString "shares")) rfl)) zb c_ONE k_Mover n_Mover_end n_Mover_start n_Mover_way f_Mover_o_part f_eased f_led_over
  have f_Mover_o_call : FnMm P w K mg base 7 (Str.ofString "Mover") (Str.ofString "call") 4 F_Mover_o_call := ok_Mover_o_call D_Mover_o_call (He.meth_ok (c.fact 47 (f := .meth (Str.ofString "Mover") (Str.ofString "call")) rfl)) zb e_NoNumber e_NoWay k_Mover n_Mover_begun n_Mover_end n_Mover_known n_Mover_long n_Mover_now n_Mover_start n_Mover_way f_Mover_o_shares f_is_time f_is_way f_look_name
  have f_Mover_o_worths : FnRm P w K mg base 7 (Str.ofString "Mover") (Str.ofString "worths") 1 F_Mover_o_worths := ok_Mover_o_worths D_Mover_o_worths (He.meth_ok (c.fact 48 (f := .meth (Str.ofString "Mover") (Str.ofString "worths")) rfl)) zb k_Mover n_Mover_known f_Mover_o_shares f_worths_of
  have f_u_law_do : FnMf P w K mg base 8 (Str.ofString "_law_do") 5 F_u_law_do := ok_u_law_do D_u_law_do (He.glo_ok X G (c.fact 49 (f := .glo (Str.ofString "_law_do")) rfl)) zb zx k_Mover f_Mover_o_u__init_u_ f_Mover_o_call f_Mover_o_go_on f_Mover_o_goal f_u_law_word
  have f_u_law_do_r : FnRf P w K mg base 8 (Str.ofString "_law_do") 5 F_u_law_do_r := ok_u_law_do_r D_u_law_do (He.glo_ok X G (c.fact 49 (f := .glo (Str.ofString "_law_do")) rfl)) zb zx k_Mover f_Mover_o_u__init_u_ f_Mover_o_call f_Mover_o_go_on f_Mover_o_goal f_u_law_word
  have f_u_law_refuses : FnRf P w K mg base 9 (Str.ofString "_law_refuses") 2 F_u_law_refuses := ok_u_law_refuses D_u_law_refuses (He.glo_ok X G (c.fact 50 (f := .glo (Str.ofString "_law_refuses")) rfl)) zb f_u_law_do_r
  exact okl_law D_law zb k_Mover f_Mover_o_u__init_u_ f_Mover_o_goal f_Mover_o_left f_Mover_o_shares f_Mover_o_time f_Mover_o_worths f_u_law_book f_u_law_call f_u_law_do f_u_law_do_r f_u_law_eased f_u_law_led f_u_law_less f_u_law_low f_u_law_pick f_u_law_refuses f_u_law_sum f_u_law_time f_u_law_worths f_are_shares
end PL.W50
end
section
namespace PL
open PySem PySem.Spec PyProof.Rows L2 PL.G
structure DenB (n : Nat) (q : Rat) : Prop where
  p0 : 0 ≤ q
  p1 : q ≤ 1
  ex : ∃ c : Nat, 0 < c ∧ c < 2 ^ n ∧ ∃ a : Int, q * ((c : Int) : Rat) = (a : Rat)
theorem sm_grid {n c : Nat} {q : Rat} {a : Int} (hc : 0 < c) (h : c < 2 ^ n) (ha : a.natAbs < 2 ^ n) (e : q * ((c : Int) : Rat) = (a : Rat)) : Sm n q := by
  have e2 : Rat.divInt a c = q := divInt_is (by omega) e.symm
  rw [← e2]
  exact divInt_sm (by omega) ha (by simpa using h)
theorem nat_rat_le {a b : Nat} (h : a ≤ b) : ((a : Int) : Rat) ≤ ((b : Int) : Rat) := Rat.intCast_le_intCast.mpr (Int.ofNat_le.mpr h)
theorem nat_rat0 (a : Nat) : (0 : Rat) ≤ ((a : Int) : Rat) := nat_rat_le (Nat.zero_le a)
theorem int_rat0 {a : Int} (h : (0 : Rat) ≤ (a : Rat)) : 0 ≤ a := Rat.intCast_le_intCast.mp (show ((0 : Int) : Rat) ≤ (a : Rat) from h)
theorem int_rat1 {a : Int} (h : (0 : Rat) < (a : Rat)) : 0 < a := Rat.intCast_lt_intCast.mp (show ((0 : Int) : Rat) < (a : Rat) from h)
theorem nmulR (a b : Nat) : (((a * b : Nat) : Int) : Rat) = ((a : Int) : Rat) * ((b : Int) : Rat) := by rw [Int.natCast_mul, Rat.intCast_mul]
theorem grid_le {q : Rat} {a : Int} {c B : Nat} (h0 : 0 ≤ q) (h1 : q ≤ ((B : Int) : Rat)) (e : q * ((c : Int) : Rat) = (a : Rat)) : 0 ≤ a ∧ a ≤ ((B * c : Nat) : Int) := by
  have c0 := nat_rat0 c
  have e0 := Rat.mul_nonneg h0 c0
  have e1 := Rat.mul_nonneg (show 0 ≤ ((B : Int) : Rat) - q by grind) c0
  constructor
  · rw [e] at e0
    exact int_rat0 e0
  · have z : (a : Rat) ≤ (((B * c : Nat) : Int) : Rat) := by
      rw [nmulR, ← e]
      grind
    exact Rat.intCast_le_intCast.mp z
theorem DenB.sm {n : Nat} {q : Rat} (h : DenB n q) : Sm n q := by
  obtain ⟨c, c0, cn, a, e⟩ := h.ex
  obtain ⟨a0, a1⟩ := grid_le (B := 1) h.p0 h.p1 e
  exact sm_grid c0 cn (by omega) e
theorem DenB.one : DenB 1 1 := ⟨by decide, by decide, 1, by decide, by decide, 1, by decide +kernel⟩
theorem DenB.mono {n m : Nat} {q : Rat} (h : DenB n q) (e : n ≤ m) : DenB m q := by
  obtain ⟨c, c0, cn, r⟩ := h.ex
  exact ⟨h.p0, h.p1, c, c0, Nat.lt_of_lt_of_le cn (Nat.pow_le_pow_right (by decide) e), r⟩
theorem ease_den {n : Nat} {p : Rat} (s : Bool) (h : DenB n p) (hn : 1 ≤ n) : DenB (3 * n) (ease s p) := by
  cases s with
  | false => exact h.mono (by omega)
  | true =>
    have h0 := h.p0
    have h1 := h.p1
    have q0 : (0 : Rat) ≤ p * p := Rat.mul_nonneg h0 h0
    have q1 : (0 : Rat) ≤ (1 - p) * (1 - p) := Rat.mul_nonneg (by grind) (by grind)
    refine ⟨?_, ?_, ?_⟩
    · show 0 ≤ p * p * (3 - (p + p))
      exact Rat.mul_nonneg q0 (by grind)
    · show p * p * (3 - (p + p)) ≤ 1
      have := Rat.mul_nonneg q1 (show (0 : Rat) ≤ 1 + 2 * p by grind)
      grind
    · obtain ⟨c, c0, cn, a, e⟩ := h.ex
      refine ⟨c * c * c, Nat.mul_pos (Nat.mul_pos c0 c0) c0, ?_, a * a * (3 * c - 2 * a), ?_⟩
      · have e3 : 2 ^ (3 * n) = 2 ^ n * 2 ^ n * 2 ^ n := by rw [← Nat.pow_add, ← Nat.pow_add]; congr 1; omega
        rw [e3]
        exact Nat.mul_lt_mul'' (Nat.mul_lt_mul'' cn cn) cn
      · show p * p * (3 - (p + p)) * (((c * c * c : Nat) : Int) : Rat) = ((a * a * (3 * c - 2 * a) : Int) : Rat)
        have z2 : ((a * a * (3 * c - 2 * a) : Int) : Rat) = (a : Rat) * a * (((3 : Int) : Rat) * ((c : Int) : Rat) - ((2 : Int) : Rat) * (a : Rat)) := by simp only [Rat.intCast_mul, Rat.intCast_sub]
        rw [nmulR, nmulR, z2, ← e, show ((3 : Int) : Rat) = 3 by rfl, show ((2 : Int) : Rat) = 2 by rfl]
        grind
structure Wd (N : List Str) (k : Nat) (w : Str → Rat) : Prop where
  pos : ∀ n ∈ N, 0 ≤ w n
  sum : sumR (N.map w) = 1
  den : ∃ c : Nat, 0 < c ∧ c < 2 ^ k ∧ ∀ n ∈ N, ∃ a : Int, w n * ((c : Int) : Rat) = (a : Rat)
theorem wd_le {N : List Str} {w : Str → Rat} (hN : N.Nodup) (h : ∀ n ∈ N, 0 ≤ w n) (hs : sumR (N.map w) = 1) : ∀ n ∈ N, w n ≤ 1 := fun n hn => by
  have e := sumR_one hN hn w
  rw [← e, ← hs]
  refine sumR_le _ _ _ fun m hm => ?_
  by_cases z : m = n
  · rw [if_pos z]; exact Rat.le_refl
  · rw [if_neg z]; exact h m hm
theorem Wd.wt {N : List Str} {k : Nat} {w : Str → Rat} (hN : N.Nodup) (h : Wd N k w) : Wt N k w where
  pos := h.pos
  sum := h.sum
  sm := fun n hn => by
    obtain ⟨c, c0, cn, e⟩ := h.den
    exact DenB.sm ⟨h.pos n hn, wd_le hN h.pos h.sum n hn, c, c0, cn, e n hn⟩
theorem wd_ind {N : List Str} (hN : N.Nodup) {n : Str} (hn : n ∈ N) : Wd N 1 (ind n) where
  pos := (wt_ind hN hn).pos
  sum := (wt_ind hN hn).sum
  den := ⟨1, by decide, by decide, fun m _ => by
    unfold ind
    split
    · exact ⟨1, by decide +kernel⟩
    · exact ⟨0, by decide +kernel⟩⟩
theorem Wd.mono {N : List Str} {k l : Nat} {w : Str → Rat} (h : Wd N k w) (e : k ≤ l) : Wd N l w := by
  obtain ⟨c, c0, cn, r⟩ := h.den
  exact ⟨h.pos, h.sum, c, c0, Nat.lt_of_lt_of_le cn (Nat.pow_le_pow_right (by decide) e), r⟩
theorem Wd.mix {N : List Str} {k l : Nat} {w : Str → Rat} {n : Str} {p : Rat} (hN : N.Nodup) (hw : Wd N k w) (hn : n ∈ N) (hp : DenB l p) : Wd N (k + l) (mixW w (ind n) p) := by
  obtain ⟨c, c0, cn, ew⟩ := hw.den
  obtain ⟨d, d0, dn, a, ep⟩ := hp.ex
  have hi := wt_ind hN hn
  refine ⟨fun m hm => ?_, ?_, c * d, Nat.mul_pos c0 d0, ?_, fun m hm => ?_⟩
  · have x1 := Rat.mul_nonneg (hw.pos m hm) (show (0 : Rat) ≤ 1 - p by have := hp.p1; grind)
    have x2 := Rat.mul_nonneg (hi.pos m hm) hp.p0
    unfold mixW
    grind
  · show sumR (N.map fun m => w m * (1 - p) + ind n m * p) = 1
    rw [sumR_add, sumR_mul, sumR_mul, hw.sum, hi.sum]
    grind
  · rw [Nat.pow_add]
    exact Nat.mul_lt_mul'' cn dn
  · obtain ⟨x, ex⟩ := ew m hm
    have i01 : ∃ y : Int, ind n m = (y : Rat) := by
      unfold ind
      split
      · exact ⟨1, by decide +kernel⟩
      · exact ⟨0, by decide +kernel⟩
    obtain ⟨y, ey⟩ := i01
    refine ⟨x * (d - a) + y * c * a, ?_⟩
    show (w m * (1 - p) + ind n m * p) * (((c * d : Nat) : Int) : Rat) = ((x * (d - a) + y * c * a : Int) : Rat)
    have z2 : ((x * (d - a) + y * c * a : Int) : Rat) = (x : Rat) * (((d : Int) : Rat) - (a : Rat)) + (y : Rat) * ((c : Int) : Rat) * (a : Rat) := by simp only [Rat.intCast_add, Rat.intCast_mul, Rat.intCast_sub]
    rw [nmulR, z2, ← ex, ← ep, ey]
    grind
structure TQ (D B : Nat) (t : Rat) : Prop where
  pos : 0 ≤ t
  le : t ≤ ((B : Int) : Rat)
  gr : ∃ N : Int, t * ((D : Int) : Rat) = (N : Rat)
theorem TQ.sm {D B n : Nat} {t : Rat} (h : TQ D B t) (hD : 0 < D) (hB : 0 < B) (hn : B * D < 2 ^ n) : Sm n t := by
  obtain ⟨N, e⟩ := h.gr
  obtain ⟨a0, a1⟩ := grid_le h.pos h.le e
  have : D ≤ B * D := Nat.le_mul_of_pos_left D hB
  exact sm_grid hD (by omega) (by omega) e
theorem TQ.add {D B C : Nat} {s t : Rat} (h : TQ D B s) (k : TQ D C t) : TQ D (B + C) (s + t) := by
  obtain ⟨N, e⟩ := h.gr
  obtain ⟨M, f⟩ := k.gr
  refine ⟨by have := h.pos; have := k.pos; grind, ?_, N + M, ?_⟩
  · rw [Int.natCast_add, Rat.intCast_add]
    have := h.le; have := k.le; grind
  · rw [Rat.intCast_add, ← e, ← f]
    grind
theorem TQ.mono {D B C : Nat} {t : Rat} (h : TQ D B t) (e : B ≤ C) : TQ D C t := ⟨h.pos, by have := h.le; have := nat_rat_le e; grind, h.gr⟩
theorem TQ.zero (D B : Nat) : TQ D B 0 := ⟨by decide, nat_rat0 B, 0, by rw [Rat.zero_mul]; rfl⟩
structure MvOk (N : List Str) (D B k : Nat) (m : Mv) : Prop where
  he : m.e ∈ N
  tn : TQ D B m.now
  tb : TQ D B m.begun
  tl : TQ D B m.long
  le : m.begun ≤ m.now
  w : Wd N k m.w
theorem part_den {N : List Str} {D B k n : Nat} {m : Mv} (h : MvOk N D B k m) (hD : 0 < D) (hB : B * D < 2 ^ n) (hn : 1 ≤ n) : DenB n m.part := by
  unfold Mv.part
  by_cases z : m.now - m.begun < m.long
  · rw [if_pos z]
    obtain ⟨L, el⟩ := h.tl.gr
    obtain ⟨A, ea⟩ := h.tn.gr
    obtain ⟨C, ec⟩ := h.tb.gr
    obtain ⟨l0, l1⟩ := grid_le h.tl.pos h.tl.le el
    have g0 : 0 ≤ m.now - m.begun := by have := h.le; grind
    have lp : 0 < m.long := by grind
    have ln : m.long ≠ 0 := by grind
    have dp : (0 : Rat) < ((D : Int) : Rat) := Rat.intCast_lt_intCast.mpr (show (0 : Int) < (D : Int) by omega)
    have inv0 : 0 ≤ (m.long)⁻¹ := Rat.le_of_lt (Rat.inv_pos.mpr lp)
    have cancel : m.long * (m.long)⁻¹ = 1 := Rat.mul_inv_cancel _ ln
    have lpos : 0 < L := by
      have := Rat.mul_pos lp dp
      rw [el] at this
      exact int_rat1 this
    refine ⟨?_, ?_, L.toNat, by omega, by omega, A - C, ?_⟩
    · rw [Rat.div_def]
      exact Rat.mul_nonneg g0 inv0
    · rw [Rat.div_def]
      have := Rat.mul_nonneg (show 0 ≤ m.long - (m.now - m.begun) by grind) inv0
      grind
    · have e1 : ((L.toNat : Nat) : Int) = L := by omega
      rw [e1, Rat.intCast_sub, ← el, ← ea, ← ec, Rat.div_def]
      grind
  · rw [if_neg z]
    exact DenB.one.mono hn
theorem cur_wd {N : List Str} {D B k n : Nat} {m : Mv} (hN : N.Nodup) (h : MvOk N D B k m) (hD : 0 < D) (hB : B * D < 2 ^ n) (hn : 1 ≤ n) : Wd N (k + 3 * n) m.cur := h.w.mix hN h.he (ease_den m.soft (part_den h hD hB hn) hn)
theorem MvOk.call {N : List Str} {D B k n : Nat} {m : Mv} {x : Str} {l : Rat} (hN : N.Nodup) (h : MvOk N D B k m) (hD : 0 < D) (hB : B * D < 2 ^ n) (hn : 1 ≤ n) (hx : x ∈ N) (hl : TQ D B l) (s : Bool) : MvOk N D B (k + 3 * n) (m.call x l s) :=
  ⟨hx, h.tn, h.tn, hl, Rat.le_refl, cur_wd hN h hD hB hn⟩
theorem MvOk.go {N : List Str} {D B k : Nat} {m : Mv} {t : Rat} (h : MvOk N D B k m) (ht : 0 ≤ t) (hb : TQ D B (m.now + t)) : MvOk N D B k (m.go t) := ⟨h.he, hb, h.tb, h.tl, by have := h.le; show m.begun ≤ m.now + t; grind, h.w⟩
theorem mv0_ok {N : List Str} {D B : Nat} {n : Str} (hN : N.Nodup) (hn : n ∈ N) : MvOk N D B 1 (mv0 n) := ⟨hn, TQ.zero _ _, TQ.zero _ _, TQ.zero _ _, Rat.le_refl, wd_ind hN hn⟩
end PL
end
section
namespace PL
open PySem PySem.Spec PyProof.Rows L2 PL.G
theorem F_istime (q : Rat) : F_is_time [fr q] = .ok (.bl (decide (0 ≤ q))) := by
  have e : decide (0 ≤ q) = decide (0 ≤ q.num) := by
    apply decide_eq_decide.mpr
    exact (Rat.num_nonneg).symm
  refine run_rt (r0 := [.im (fr q)]) rfl ?_
  refine ret_of ?_ rfl
  rw [x_fAndV, call_1 rfl rfl (F_isfr q), e]
  simp
theorem F_isway (s : Bool) : F_is_way [.str (wayS s)] = .ok (.bl true) := by cases s <;> rfl
theorem F_lookname {j : Nat} {b : Bk} (h : Bok j b) {n : Str} (hn : n ∈ nms b) : F_look_name [bkD b, .str n] = .ok .non := by
  simp only [F_look_name, x_runF, B_look_name]
  rw [show ([bkD b, D.str n].map Sl.im ++ List.replicate (2 - [bkD b, D.str n].length) Sl.un) = [.im (bkD b), .im (.str n)] from rfl, if_skip]
  rw [x_fNot, x_fTest, call_2 (a := bkD b) (b := .str n) rfl rfl rfl rfl (F_hasname' h hn)]
  rfl
theorem wayS_eq (r : Rho) (s : Bool) : eqD r (.str (wayS s)) (.str (Str.ofString "even")) = .ok (.bl (!s)) := by
  cases s
  · exact (eqD_str (by decide +kernel) (by decide +kernel)).trans (by rw [show (wayS false == Str.ofString "even") = true by decide +kernel]; rfl)
  · exact (eqD_str (by decide +kernel) (by decide +kernel)).trans (by rw [show (wayS true == Str.ofString "even") = false by decide +kernel]; rfl)
theorem num_pos' (q : Rat) : 0 < q.num ↔ 0 < q := by
  have e := Rat.num_nonneg (q := -q)
  rw [Rat.neg_num] at e
  constructor
  · intro h
    have : ¬ (0 ≤ -q) := fun z => by have := e.mpr z; omega
    grind
  · intro h
    have : ¬ (0 ≤ -q.num) := fun z => by have := e.mp z; grind
    omega
theorem obset {c fl : Str} {r r2 : Rho} {os : List Ob} {fs fs2 : List (Str × D)} {fo fe : Rho → R D} {d : D} {i : Nat} (h0 : fo r = .ok (.obj i)) (hr : stOf r = os) (hw : wSt r = true) (h1 : os[i]? = some (.ins c fs)) (h2 : fe r = .ok d) (h3 : obD d = .ok d) (hl : fs.length < 900) (h4 : putFD fl d fs = fs2) (he : setSt r (os.set i (.ins c fs2)) = r2) :
    fSetF c fl fo fe r = .ok (.nx r2) := by
  subst hr he h4
  exact fSetF_ok hw h2 h3 h0 h1 hl
theorem F_easedQ {n : Nat} {p : Rat} (s : Bool) (h : Sm n p) (hn : n ≤ 1000) : F_eased [.str (wayS s), fr p] = .ok (fr (ease s p)) := by
  refine run_rt (r0 := [.im (.str (wayS s)), .im (fr p)]) rfl ?_
  cases s with
  | false =>
    refine seq_rt ?_
    rw [x_fIfS, x_fTest, x_fBin, show fVar 0 [Sl.im (.str (wayS false)), .im (fr p)] = .ok (.str (wayS false)) from rfl, bnd_ok, show fK (.str (Str.ofString "even")) [Sl.im (.str (wayS false)), .im (fr p)] = .ok (.str (Str.ofString "even")) from rfl, bnd_ok, wayS_eq]
    rfl
  | true =>
    refine seq_go (if_skip ?_) ?_
    · rw [x_fTest, x_fBin, show fVar 0 [Sl.im (.str (wayS true)), .im (fr p)] = .ok (.str (wayS true)) from rfl, bnd_ok, show fK (.str (Str.ofString "even")) [Sl.im (.str (wayS true)), .im (fr p)] = .ok (.str (Str.ofString "even")) from rfl, bnd_ok, wayS_eq]
      rfl
    · have t3 : Sm 2 3 := ⟨by decide, by decide⟩
      have e1 := F_times_ok h h (by omega)
      have e2 := F_plus_ok h h (by omega)
      have e3 := F_minus_ok t3 (h.add h) (by omega)
      have e4 := F_times_ok (h.mul h) (t3.sub (h.add h)) (by omega)
      exact ret_of (call_2 (call_2 rfl rfl rfl rfl e1) rfl (call_2 (a := fr 3) rfl rfl (call_2 rfl rfl rfl rfl e2) rfl e3) rfl e4) rfl
section
variable {j Dg B k n : Nat} {b : Bk} {m : Mv} {os : List Ob} {i : Nat}
theorem F_mvpart (hk : os[i]? = some (mvO b m)) (h : MvOk (nms b) Dg B k m) (hD : 0 < Dg) (hB0 : 0 < B) (hB : B * Dg < 2 ^ n) (hn : n ≤ 1000) : F_Mover_o_part os [.obj i] = .ok (fr m.part) := by
  have s1 := h.tn.sm hD hB0 hB
  have s2 := h.tb.sm hD hB0 hB
  have s3 := h.tl.sm hD hB0 hB
  have e1 := F_minus_ok s1 s2 (by omega)
  have s4 := s1.sub s2
  have e2 := F_less_ok (n := n + n + 1) s4 (s3.mono (by omega)) (by omega)
  refine runR_rt (r0 := [.im (.obj i), .un, .st false os]) rfl ?_
  refine seq_go (r' := [.im (.obj i), .im (fr (m.now - m.begun)), .st false os]) (asg_to (call_2 (fFld_ok rfl hk lk_now) rfl (fFld_ok rfl hk lk_begun) rfl e1) rfl (by simp) rfl) ?_
  refine ret_of ?_ rfl
  rw [x_fIf, x_fTest, call_2 (a := fr (m.now - m.begun)) (b := fr m.long) rfl rfl (fFld_ok rfl hk lk_long) rfl e2]
  unfold Mv.part
  simp only [bnd_ok, x_boolOf]
  by_cases z : m.now - m.begun < m.long
  · rw [decide_eq_true z, if_pos rfl, if_pos z]
    have ln : m.long ≠ 0 := by have := h.le; grind
    exact call_2 rfl rfl (fFld_ok rfl hk lk_long) rfl (F_parted_ok s4 s3 ln (by omega))
  · rw [decide_eq_false z, if_neg (by decide), if_neg z]
    rfl
theorem F_mvtime (hk : os[i]? = some (mvO b m)) : F_Mover_o_time os [.obj i] = .ok (fr m.now) :=
  runR_rt (r0 := [.im (.obj i), .st false os]) rfl (ret_of (fFld_ok rfl hk lk_now) rfl)
theorem F_mvgoal (hk : os[i]? = some (mvO b m)) : F_Mover_o_goal os [.obj i] = .ok (.str m.e) :=
  runR_rt (r0 := [.im (.obj i), .st false os]) rfl (ret_of (fFld_ok rfl hk lk_end) rfl)
theorem F_mvleft (hk : os[i]? = some (mvO b m)) (h : MvOk (nms b) Dg B k m) (hD : 0 < Dg) (hB0 : 0 < B) (hB : B * Dg < 2 ^ n) (hn : n ≤ 1000) : F_Mover_o_left os [.obj i] = .ok (fr m.left) := by
  have s1 := h.tn.sm hD hB0 hB
  have s2 := h.tb.sm hD hB0 hB
  have s3 := h.tl.sm hD hB0 hB
  have e1 := F_plus_ok s2 s3 (by omega)
  have e2 := F_minus_ok (s2.add s3) s1 (by omega)
  refine runR_rt (r0 := [.im (.obj i), .un, .st false os]) rfl ?_
  refine seq_go (r' := [.im (.obj i), .im (fr (m.begun + m.long - m.now)), .st false os]) (asg_to (call_2 (call_2 (fFld_ok rfl hk lk_begun) rfl (fFld_ok rfl hk lk_long) rfl e1) rfl (fFld_ok rfl hk lk_now) rfl e2) rfl (by simp) rfl) ?_
  refine ret_of ?_ rfl
  rw [x_fIf, x_fTest, x_fBin, x_fBin]
  simp only [show fVar 1 [Sl.im (.obj i), .im (fr (m.begun + m.long - m.now)), .st false os] = .ok (fr (m.begun + m.long - m.now)) from rfl, bnd_ok, x_ixD_fr0, x_gtI, x_boolOf]
  unfold Mv.left
  have e : decide (0 < (m.begun + m.long - m.now).num) = decide (0 < m.begun + m.long - m.now) := decide_eq_decide.mpr (num_pos' _)
  rw [e]
  by_cases z : 0 < m.begun + m.long - m.now
  · rw [decide_eq_true z, if_pos rfl, if_pos z]
  · rw [decide_eq_false z, if_neg (by decide), if_neg z]
    rfl
theorem F_mvshares (hb : Bok j b) (hk : os[i]? = some (mvO b m)) (h : MvOk (nms b) Dg B k m) (hD : 0 < Dg) (hB0 : 0 < B) (hB : B * Dg < 2 ^ n) (hn1 : 1 ≤ n) (hn : k + 3 * n ≤ 570) : F_Mover_o_shares os [.obj i] = .ok (shW b m.cur) := by
  have pd := part_den h hD hB hn1
  have ed := ease_den m.soft pd hn1
  have h6 := hb.nlen
  have e1 := F_mvpart hk h hD hB0 hB (by omega)
  have e2 := F_easedQ m.soft pd.sm (by omega)
  have e3 := F_ledover (k := k + 1) hb.up (by omega) (fun x hx => ((h.w.wt hb.nodup).sm x hx).mono (by omega)) (fun x hx => ((wt_ind hb.nodup h.he).sm x hx).mono (by omega)) ed.sm (A := shW b m.w) (.inl rfl) (B := .lst [.tup [.str m.e, fr 1]]) (.inl (by rw [canon_ind hb.nodup h.he]; rfl)) (by
    have := Nat.mul_le_mul (show k + 1 + 3 * n + 3 ≤ 574 by omega) (show (nms b).length + (nms b).length ≤ 12 by omega)
    omega) (by omega)
  refine runR_rt (r0 := [.im (.obj i), .st false os]) rfl ?_
  refine ret_of (call_3 (fFld_ok rfl hk lk_start) rfl ?_ rfl (call_2 (fFld_ok rfl hk lk_way) rfl (fMethR_ok rfl hk (lk_m (by decide)) rfl rfl rfl e1) rfl e2) rfl e3) rfl
  rw [x_fL, x_fLst, x_fCons, x_fTup, x_fCons, fFld_ok rfl hk lk_end]
  rfl
theorem F_mvworths (hb : Bok j b) (hk : os[i]? = some (mvO b m)) (h : MvOk (nms b) Dg B k m) (hD : 0 < Dg) (hB0 : 0 < B) (hB : B * Dg < 2 ^ n) (hn1 : 1 ≤ n) (hn : k + 3 * n ≤ 570) : F_Mover_o_worths os [.obj i] = .ok (.tup ((List.range j).map fun q => fr (wor b m.cur q))) := by
  have e1 := F_mvshares hb hk h hD hB0 hB hn1 hn
  have e2 := F_worths hb (fun x hx => ((cur_wd hb.nodup h hD hB hn1).wt hb.nodup).sm x hx) (by omega) (A := shW b m.cur) (.inl rfl)
  exact runR_rt (r0 := [.im (.obj i), .st false os]) rfl (ret_of (call_2 (fFld_ok rfl hk lk_known) rfl (fMethR_ok rfl hk (lk_m (by decide)) rfl rfl rfl e1) rfl e2) rfl)
theorem set_get {os : List Ob} {i : Nat} {x y : Ob} (h : os[i]? = some x) : (os.set i y)[i]? = some y := List.getElem?_set_self (List.getElem?_eq_some_iff.mp h).1
theorem set_lt {os : List Ob} {i : Nat} {x : Ob} (h : os[i]? = some x) : i < os.length := (List.getElem?_eq_some_iff.mp h).1
theorem F_mvgo {t : Rat} (hk : os[i]? = some (mvO b m)) (h : MvOk (nms b) Dg B k m) (hD : 0 < Dg) (hB0 : 0 < B) (hB : B * Dg < 2 ^ n) (hn : n ≤ 1000) (ht : 0 ≤ t) (hs : Sm n t) : F_Mover_o_go_on os [.obj i, fr t] = .ok (.non, os.set i (mvO b (m.go t))) := by
  have e1 := F_istime t
  rw [decide_eq_true ht] at e1
  have e2 := F_plus_ok (h.tn.sm hD hB0 hB) hs (by omega)
  refine runM_nx (r0 := [.im (.obj i), .im (fr t), .st false os]) (r' := [.im (.obj i), .im (fr t), .st true (os.set i (mvO b (m.go t)))]) rfl ?_ rfl rfl
  refine seqM_go (r' := [.im (.obj i), .im (fr t), .st false os]) (if_skip (by rw [x_fNot, x_fTest, call_1 rfl rfl e1]; rfl)) rfl (Nat.le_refl _) ?_
  refine sw_nx rfl ?_
  show fSetF _ _ _ _ [.im (.obj i), .im (fr t), .st true os] = _
  exact obset (i := i) (os := os) (fs := mvF b m) (fs2 := mvF b (m.go t)) (d := fr (m.now + t)) rfl rfl rfl hk (call_2 (fFld_ok rfl hk lk_now) rfl rfl rfl e2) rfl (by rw [mvF_len]; decide) (pt_now _) rfl
theorem F_mvcall {l : Rat} {x : Str} {s : Bool} (hb : Bok j b) (hk : os[i]? = some (mvO b m)) (h : MvOk (nms b) Dg B k m) (hD : 0 < Dg) (hB0 : 0 < B) (hB : B * Dg < 2 ^ n) (hn1 : 1 ≤ n) (hn : k + 3 * n ≤ 570) (hx : x ∈ nms b) (ht : 0 ≤ l) :
    F_Mover_o_call os [.obj i, .str x, fr l, .str (wayS s)] = .ok (.non, os.set i (mvO b (m.call x l s))) := by
  have e1 := F_istime l
  rw [decide_eq_true ht] at e1
  have e2 := F_mvshares hb hk h hD hB0 hB hn1 hn
  have lt := set_lt hk
  refine runM_nx (r0 := [.im (.obj i), .im (.str x), .im (fr l), .im (.str (wayS s)), .st false os]) (r' := [.im (.obj i), .im (.str x), .im (fr l), .im (.str (wayS s)), .st true (os.set i (mvO b (m.call x l s)))]) rfl ?_ rfl rfl
  refine seqM_go (r' := [.im (.obj i), .im (.str x), .im (fr l), .im (.str (wayS s)), .st false os]) (by rw [x_fExpr, call_2 (fFld_ok rfl hk lk_known) rfl rfl rfl (F_lookname hb hx)]; rfl) rfl (Nat.le_refl _) ?_
  refine seqM_go (r' := [.im (.obj i), .im (.str x), .im (fr l), .im (.str (wayS s)), .st false os]) (if_skip (by rw [x_fNot, x_fTest, call_1 rfl rfl e1]; rfl)) rfl (Nat.le_refl _) ?_
  refine seqM_go (r' := [.im (.obj i), .im (.str x), .im (fr l), .im (.str (wayS s)), .st false os]) (if_skip (by rw [x_fNot, x_fTest, call_1 (a := .str (wayS s)) rfl rfl (F_isway s)]; rfl)) rfl (Nat.le_refl _) ?_
  refine sw_nx rfl ?_
  obtain ⟨m1, hm1⟩ : ∃ m1, m1 = { m with w := m.cur } := ⟨_, rfl⟩
  obtain ⟨m2, hm2⟩ : ∃ m2, m2 = { m1 with e := x } := ⟨_, rfl⟩
  obtain ⟨m3, hm3⟩ : ∃ m3, m3 = { m2 with begun := m2.now } := ⟨_, rfl⟩
  obtain ⟨m4, hm4⟩ : ∃ m4, m4 = { m3 with long := l } := ⟨_, rfl⟩
  have key : ∀ (os1 : List Ob) (ma mb : Mv) (fl : Str) (fe : Rho → PL.R D) (d : D), os1[i]? = some (mvO b ma) → (∀ y, os1.set i y = os.set i y) → fe [.im (.obj i), .im (.str x), .im (fr l), .im (.str (wayS s)), .st true os1] = .ok d → obD d = .ok d → putFD fl d (mvF b ma) = mvF b mb →
      fSetF cM fl (fVar 0) fe [.im (.obj i), .im (.str x), .im (fr l), .im (.str (wayS s)), .st true os1] = .ok (.nx [.im (.obj i), .im (.str x), .im (fr l), .im (.str (wayS s)), .st true (os.set i (mvO b mb))]) := fun os1 ma mb fl fe d h1 h2 h3 h4 h5 =>
    obset (i := i) (os := os1) (fs := mvF b ma) (fs2 := mvF b mb) (d := d) rfl rfl rfl h1 h3 h4 (by rw [mvF_len]; decide) h5 (by rw [h2]; rfl)
  have ss : ∀ z y : Ob, (os.set i z).set i y = os.set i y := fun z y => List.set_set ..
  refine seq_go (key os m m1 _ _ _ hk (fun _ => rfl) (fMethR_ok rfl hk (lk_m (by decide)) rfl rfl rfl e2) rfl (by rw [hm1]; exact pt_start m.cur)) ?_
  refine seq_go (key _ m1 m2 _ _ (.str x) (set_get hk) (ss _) rfl rfl (by rw [hm2]; exact pt_end x)) ?_
  refine seq_go (key _ m2 m3 _ _ _ (set_get hk) (ss _) (fFld_ok rfl (set_get hk) lk_now) rfl (by rw [hm3]; exact pt_begun _)) ?_
  refine seq_go (key _ m3 m4 _ _ (fr l) (set_get hk) (ss _) rfl rfl (by rw [hm4]; exact pt_long l)) ?_
  refine (key _ m4 (m.call x l s) _ _ (.str (wayS s)) (set_get hk) (ss _) rfl rfl ?_)
  rw [hm4, hm3, hm2, hm1]
  exact pt_way s
theorem F_mvinit {x : Str} (hb : Bok j b) (hk : os[i]? = some (.ins cM [])) (hx : x ∈ nms b) : F_Mover_o_u__init_u_ os [.obj i, bkD b, .str x] = .ok (.non, os.set i (mvO b (mv0 x))) := by
  have lt := set_lt hk
  refine runM_nx (r0 := [.im (.obj i), .im (bkD b), .im (.str x), .st false os]) (r' := [.im (.obj i), .im (bkD b), .im (.str x), .st true (os.set i (mvO b (mv0 x)))]) rfl ?_ rfl rfl
  refine seqM_go (r' := [.im (.obj i), .im (bkD b), .im (.str x), .st false os]) (by rw [x_fExpr, call_1 rfl rfl (F_lookbook hb)]; rfl) rfl (Nat.le_refl _) ?_
  refine seqM_go (r' := [.im (.obj i), .im (bkD b), .im (.str x), .st false os]) (by rw [x_fExpr, call_2 (a := bkD b) rfl rfl rfl rfl (F_lookname hb hx)]; rfl) rfl (Nat.le_refl _) ?_
  refine sw_nx rfl ?_
  have ss : ∀ z y : Ob, (os.set i z).set i y = os.set i y := fun z y => List.set_set ..
  have key : ∀ (os1 : List Ob) (fs fs2 : List (Str × D)) (fl : Str) (fe : Rho → PL.R D) (d : D), os1[i]? = some (.ins cM fs) → (∀ y, os1.set i y = os.set i y) → fe [.im (.obj i), .im (bkD b), .im (.str x), .st true os1] = .ok d → obD d = .ok d → fs.length < 900 → putFD fl d fs = fs2 →
      fSetF cM fl (fVar 0) fe [.im (.obj i), .im (bkD b), .im (.str x), .st true os1] = .ok (.nx [.im (.obj i), .im (bkD b), .im (.str x), .st true (os.set i (.ins cM fs2))]) := fun os1 fs fs2 fl fe d h1 h2 h3 h4 hl h5 =>
    obset (i := i) (os := os1) (fs := fs) (fs2 := fs2) (d := d) rfl rfl rfl h1 h3 h4 hl h5 (by rw [h2]; rfl)
  refine seq_go (key os [] [(Str.ofString "known", bkD b)] _ _ (bkD b) hk (fun _ => rfl) rfl rfl (Nat.zero_lt_succ _) rfl) ?_
  refine seq_go (key _ _ [(Str.ofString "known", bkD b), (Str.ofString "now", fr 0)] _ _ (fr 0) (set_get hk) (ss _) rfl rfl (by simp) (by kernel_rfl)) ?_
  refine seq_go (key _ _ [(Str.ofString "known", bkD b), (Str.ofString "now", fr 0), (Str.ofString "start", .lst [.tup [.str x, fr 1]])] _ _ (.lst [.tup [.str x, fr 1]]) (set_get hk) (ss _) rfl rfl (by simp) (by kernel_rfl)) ?_
  refine seq_go (key _ _ [(Str.ofString "known", bkD b), (Str.ofString "now", fr 0), (Str.ofString "start", .lst [.tup [.str x, fr 1]]), (Str.ofString "end", .str x)] _ _ (.str x) (set_get hk) (ss _) rfl rfl (by simp) (by kernel_rfl)) ?_
  refine seq_go (key _ _ [(Str.ofString "known", bkD b), (Str.ofString "now", fr 0), (Str.ofString "start", .lst [.tup [.str x, fr 1]]), (Str.ofString "end", .str x), (Str.ofString "begun", fr 0)] _ _ (fr 0) (set_get hk) (ss _) rfl rfl (by simp) (by kernel_rfl)) ?_
  refine seq_go (key _ _ [(Str.ofString "known", bkD b), (Str.ofString "now", fr 0), (Str.ofString "start", .lst [.tup [.str x, fr 1]]), (Str.ofString "end", .str x), (Str.ofString "begun", fr 0), (Str.ofString "long", fr 0)] _ _ (fr 0) (set_get hk) (ss _) rfl rfl (by simp) (by kernel_rfl)) ?_
  refine (key _ _ (mvF b (mv0 x)) _ _ (.str (wayS false)) (set_get hk) (ss _) rfl rfl (by simp) ?_)
  unfold mvF shW mv0
  rw [canon_ind hb.nodup hx]
  kernel_rfl
end
end PL
end
section
namespace PL
open PySem PySem.Spec PyProof.Rows L2 PL.G
theorem pickN (ns : List Int) (k : Int) (m : Nat) (h0 : 0 ≤ k) (hm : 0 < m) : ∃ p : Nat, p < m ∧ F_u_law_pick [.scr ns, .int k, .int (m : Int)] = .ok (.int (p : Int)) := by
  obtain ⟨a1, a2, a3⟩ := pick_ok ns k m h0 (by omega)
  refine ⟨(pk ns k m).toNat, by omega, ?_⟩
  rw [a1, Int.toNat_of_nonneg a2]
theorem tq_div {p : Nat} {d : Int} (D B : Nat) (h : p ≤ B) (c : Int) (hc : d * c = (D : Int)) (hd : 0 < d) : TQ D B (Rat.divInt p d) := by
  have hd' : (d : Rat) ≠ 0 := by
    intro z
    have : d = 0 := by exact_mod_cast z
    omega
  have e : Rat.divInt (p : Int) d * (d : Rat) = ((p : Int) : Rat) := by rw [Rat.divInt_eq_div]; grind
  have i0 : 0 ≤ Rat.divInt (p : Int) d := Rat.divInt_nonneg (by omega) (by omega)
  refine ⟨i0, ?_, (p : Int) * c, ?_⟩
  · have d1 : (1 : Rat) ≤ (d : Rat) := Rat.intCast_le_intCast.mpr (show (1 : Int) ≤ d by omega)
    have := Rat.mul_nonneg i0 (show (0 : Rat) ≤ (d : Rat) - 1 by grind)
    have := nat_rat_le h
    grind
  · rw [← hc, Rat.intCast_mul, Rat.intCast_mul, ← e]
    grind
theorem law_time_ok (ns : List Int) (k : Int) (h0 : 0 ≤ k) : ∃ t, F_u_law_time [.scr ns, .int k] = .ok (fr t) ∧ TQ 6 12 t := by
  obtain ⟨p, hp, ep⟩ := pickN ns k 4 h0 (by decide)
  obtain ⟨q, hq, eq⟩ := pickN ns (k + 2) 3 (by omega) (by decide)
  have hd : ∃ d : Int, ixD [.im (.scr ns), .im (.int k), .un] (.lst [.int 1, .int 1, .int 2, .int 3]) (.int (p : Int)) = .ok (.int d) ∧ (d = 1 ∨ d = 2 ∨ d = 3) := by
    match p, hp with
    | 0, _ => exact ⟨1, rfl, .inl rfl⟩
    | 1, _ => exact ⟨1, rfl, .inl rfl⟩
    | 2, _ => exact ⟨2, rfl, .inr (.inl rfl)⟩
    | 3, _ => exact ⟨3, rfl, .inr (.inr rfl)⟩
  obtain ⟨d, ed, cd⟩ := hd
  have ht : ∃ m : Nat, ixD [.im (.scr ns), .im (.int k), .im (.int d)] (.lst [.int 1, .int 4, .int 13]) (.int (q : Int)) = .ok (.int (m : Int)) ∧ 0 < m ∧ m ≤ 13 := by
    match q, hq with
    | 0, _ => exact ⟨1, rfl, by decide, by decide⟩
    | 1, _ => exact ⟨4, rfl, by decide, by decide⟩
    | 2, _ => exact ⟨13, rfl, by decide, by decide⟩
  obtain ⟨m, em, m0, m13⟩ := ht
  obtain ⟨u, hu, eu⟩ := pickN ns (k + 1) m (by omega) m0
  have el := F_low_ok (u := (u : Int)) (d := d) (n := 4) (by omega) (by omega) (by decide)
  refine ⟨Rat.divInt u d, ?_, ?_⟩
  · refine run_rt (r0 := [.im (.scr ns), .im (.int k), .un]) rfl ?_
    refine seq_go (r' := [.im (.scr ns), .im (.int k), .im (.int d)]) (asg_to ?_ rfl (by simp) rfl) ?_
    · rw [x_fBin, call_3 (a := .scr ns) (b := .int k) (c := .int 4) rfl rfl rfl rfl rfl rfl ep]
      exact ed
    · refine ret_of (call_2 (call_3 (a := .scr ns) (b := .int (k + 1)) rfl rfl rfl rfl ?_ rfl eu) rfl rfl rfl el) rfl
      rw [x_fBin, call_3 (a := .scr ns) (b := .int (k + 2)) (c := .int 3) rfl rfl rfl rfl rfl rfl eq]
      exact em
  · rcases cd with rfl | rfl | rfl
    · exact tq_div 6 12 (by omega) 6 rfl (by decide)
    · exact tq_div 6 12 (by omega) 3 rfl (by decide)
    · exact tq_div 6 12 (by omega) 2 rfl (by decide)
theorem TQ.fine {D E B c : Nat} {t : Rat} (h : TQ D B t) (e : D * c = E) : TQ E B t := by
  obtain ⟨N, q⟩ := h.gr
  refine ⟨h.pos, h.le, N * c, ?_⟩
  rw [← e, nmulR, Rat.intCast_mul, ← q]
  grind
theorem lawsumQ {k : Nat} {x y : Rat} (hx : Sm k x) (hy : Sm k y) (hk : k ≤ 2000) : F_u_law_sum [.lst [fr x, fr y]] = .ok (fr (x + y)) := by
  have e := F_lawsum (A := .lst [fr x, fr y]) (qs := [x, y]) (.inl rfl) (fun q hq => by
    simp only [List.mem_cons, List.not_mem_nil, or_false] at hq
    rcases hq with rfl | rfl
    · exact hx
    · exact hy) (by simp; omega)
  rw [e]
  congr 2
  show (0 + x) + y = x + y
  grind
theorem len_of {f : Rho → R D} {r : Rho} {A : D} {xs : List D} (h : f r = .ok A) (hA : SeqOf A xs) : fCallB lenD (fConsB f fNil) r = .ok (.int xs.length) := by
  rw [x_fCallB, x_fConsB, h]
  exact hA.len r
theorem off_mul {a c k : Int} {f : Rho → R D} {r : Rho} (h : f r = .ok (.int k)) (hm : mulB c k = true) : fBin addD (fK (.int a)) (fBin mulD (fK (.int c)) f) r = .ok (.int (a + c * k)) := by
  rw [x_fBin, x_fBin, h]
  show (R.ok (D.int a)).bnd (fun x => (mulD r (.int c) (.int k)).bnd fun y => addD r x y) = _
  rw [x_mulD_int, hm]
  rfl
theorem xm_make {c : Str} {n : Nat} {F : List Ob → List D → R (D × List Ob)} {fs : Rho → R (List D)} {r r' : Rho} {ds : List D} {os os' : List Ob} (hr : stOf r = os) (h1 : fs r = .ok ds) (h2 : ds.length + 1 = n) (h : F (os ++ [.ins c []]) (.obj os.length :: ds) = .ok (.non, os')) (hr' : setSt r os' = r') : fXm (fMake c n F fs) r = .ok (.obj os.length, r') := by
  subst hr hr'
  unfold fXm
  rw [fMake_ok h1 h2 h]
  rfl
theorem consX_go {f : Rho → R (D × Rho)} {fs : Rho → R (List Sl × Rho)} {r r1 r2 : Rho} {d : D} {ss : List Sl} (h1 : f r = .ok (d, r1)) (i : obD d = .ok d) (hw : wSt r1 = true) (h2 : fs r1 = .ok (ss, r2)) : fConsX f fs r = .ok (.im d :: ss, r2) := by
  unfold fConsX
  rw [h1, bnd_ok, i, bnd_ok, hw, if_pos rfl, h2]
  rfl
theorem parXX_go {is : List Nat} {fs : Rho → R (List Sl × Rho)} {r r1 r' : Rho} {ss : List Sl} (hw : wSt r = true) (h : fs r = .ok (ss, r1)) (hl : ss.length = is.length) (hr : setAll is ss r1 = r') : fParXX is fs r = .ok (.nx r') := by
  unfold fParXX
  rw [hw, if_pos rfl, h, bnd_ok, if_pos (decide_eq_true hl), hr]
theorem way_ix (r : Rho) (p : Nat) (h : p < 2) : ∃ s, ixD r (.lst [.str (Str.ofString "even"), .str (Str.ofString "soft")]) (.int (p : Int)) = .ok (.str (wayS s)) := by
  match p, h with
  | 0, _ => exact ⟨false, rfl⟩
  | 1, _ => exact ⟨true, rfl⟩
end PL
end
section
namespace PL
open PySem PySem.Spec PyProof.Rows L2 PL.G
inductive Lv (w : Nat) : Nat → D → Prop
  | non (n : Nat) : Lv w n .non
  | bl (n : Nat) (b : Bool) : Lv w n (.bl b)
  | int (n : Nat) (i : Int) : i.natAbs < 2 ^ 64 → Lv w n (.int i)
  | str (n : Nat) (x : Str) : PyData.strOk x = true → x.length ≤ 100 → Lv w n (.str x)
  | tup (n : Nat) (ds : List D) : ds.length ≤ w → (∀ d ∈ ds, Lv w n d) → Lv w (n + 1) (.tup ds)
theorem Lv.mono {w w' n m : Nat} {d : D} (h : Lv w n d) (hw : w ≤ w') : n ≤ m → Lv w' m d := by
  induction h generalizing m with
  | non n => exact fun _ => .non m
  | bl n b => exact fun _ => .bl m b
  | int n i h => exact fun _ => .int m i h
  | str n x h1 h2 => exact fun _ => .str m x h1 h2
  | tup n ds h1 h2 ih =>
    intro e
    obtain ⟨k, rfl⟩ : ∃ k, m = k + 1 := ⟨m - 1, by omega⟩
    exact .tup k ds (by omega) fun d hd => ih d hd (by omega)
theorem Lv.im {w n : Nat} {d : D} (h : Lv w n d) : imD d = .ok d := by cases h <;> rfl
theorem Lv.noOwn {w n : Nat} {d : D} (h : Lv w n d) : noOwn d = true := by cases h <;> rfl
theorem Lv.own {w n : Nat} {d : D} (h : Lv w n d) (r : Rho) : ownL r d = true := by cases h <;> rfl
theorem Lv.out {w n : Nat} {d : D} (h : Lv w n d) (r : Rho) : outD r d = .ok d := by cases h <;> rfl
theorem Lv.mem {w n : Nat} {ds : List D} {d : D} (h : Lv w (n + 1) (.tup ds)) (m : d ∈ ds) : Lv w n d := by
  cases h with
  | tup n ds h1 h2 => exact h2 d m
theorem Lv.len {w n : Nat} {ds : List D} (h : Lv w n (.tup ds)) : ds.length ≤ w := by
  cases h with
  | tup n ds h1 h2 => exact h1
inductive Th : Nat → D → Prop
  | int (n : Nat) (i : Int) : i.natAbs < 2 ^ 60 → Th n (.int i)
  | str (n : Nat) (x : Str) : PyData.strOk x = true → x.length ≤ 100 → Th n (.str x)
  | tup (n : Nat) (ds : List D) : ds.length ≤ 6 → (∀ d ∈ ds, Th n d) → Th (n + 1) (.tup ds)
theorem Th.lv {n : Nat} {d : D} (h : Th n d) : Lv 6 n d := by
  induction h with
  | int n i h => exact .int n i (Nat.lt_of_lt_of_le h (by decide))
  | str n x h1 h2 => exact .str n x h1 h2
  | tup n ds h1 h2 ih => exact .tup n ds h1 ih
theorem Th.mono {n m : Nat} {d : D} (h : Th n d) : n ≤ m → Th m d := by
  induction h generalizing m with
  | int n i h => exact fun _ => .int m i h
  | str n x h1 h2 => exact fun _ => .str m x h1 h2
  | tup n ds h1 h2 ih =>
    intro e
    obtain ⟨k, rfl⟩ : ∃ k, m = k + 1 := ⟨m - 1, by omega⟩
    exact .tup k ds h1 fun d hd => ih d hd (by omega)
theorem Th.bits {n : Nat} {i : Int} (h : Th n (.int i)) : i.natAbs < 2 ^ 60 := by
  cases h with
  | int _ _ h => exact h
theorem p7 (n : Nat) : 1 ≤ 7 ^ n := Nat.pow_pos (by decide)
theorem atI_nat {α : Type} (xs : List α) (i : Nat) {x : α} (h : xs[i]? = some x) : L2.atI xs (i : Int) = some x := by
  have lt := (List.getElem?_eq_some_iff.mp h).1
  unfold L2.atI ixN
  rw [if_pos (by omega), if_pos (by omega)]
  simp [h]
end PL
end
section
namespace PL
open PySem PySem.Spec PyProof.Rows L2 PL.G
theorem Lv.cases2 {w n : Nat} {d : D} (h : Lv w n d) : d = .non ∨ (∃ b, d = .bl b) ∨ (∃ i, d = .int i ∧ i.natAbs < 2 ^ 64) ∨ (∃ x, d = .str x ∧ PyData.strOk x = true ∧ x.length ≤ 100) ∨ ∃ ds, d = .tup ds ∧ ds.length ≤ w ∧ ∃ m, n = m + 1 ∧ ∀ x ∈ ds, Lv w m x := by
  cases h with
  | non n => exact .inl rfl
  | bl n b => exact .inr (.inl ⟨b, rfl⟩)
  | int n i h => exact .inr (.inr (.inl ⟨i, rfl, h⟩))
  | str n x h1 h2 => exact .inr (.inr (.inr (.inl ⟨x, rfl, h1, h2⟩)))
  | tup n ds h1 h2 => exact .inr (.inr (.inr (.inr ⟨ds, rfl, h1, n, rfl, h2⟩)))
@[simp] theorem ty_non (t : String) : isTy .non t = false := rfl
@[simp] theorem ty_bl (b : Bool) (t : String) : isTy (.bl b) t = (t == "bool" || t == "int") := rfl
@[simp] theorem ty_int (i : Int) (t : String) : isTy (.int i) t = (t == "int") := rfl
@[simp] theorem ty_str (x : Str) (t : String) : isTy (.str x) t = (t == "str") := rfl
@[simp] theorem ty_tup (ds : List D) (t : String) : isTy (.tup ds) t = (t == "tuple") := rfl
@[simp] theorem ty_lst (ds : List D) (t : String) : isTy (.lst ds) t = (t == "list") := rfl
end PL
end
section
namespace PL
open PySem PySem.Spec PyProof.Rows L2 PL.G
end PL
end
section
namespace PL
open PySem PySem.Spec PyProof.Rows L2 PL.G
@[simp] theorem sle5 : 5 ≤ sizeLine := sz_le (by decide)
@[simp] theorem slt_5 : 5 < sizeLine := sz_lt' (by decide)
@[simp] theorem sle6 : 6 ≤ sizeLine := sz_le (by decide)
@[simp] theorem slt_6 : 6 < sizeLine := sz_lt' (by decide)
@[simp] theorem sle7 : 7 ≤ sizeLine := sz_le (by decide)
@[simp] theorem slt_7 : 7 < sizeLine := sz_lt' (by decide)
@[simp] theorem sle8 : 8 ≤ sizeLine := sz_le (by decide)
@[simp] theorem slt_8 : 8 < sizeLine := sz_lt' (by decide)
@[simp] theorem sle9 : 9 ≤ sizeLine := sz_le (by decide)
@[simp] theorem slt_9 : 9 < sizeLine := sz_lt' (by decide)
@[simp] theorem sle10 : 10 ≤ sizeLine := sz_le (by decide)
@[simp] theorem slt_10 : 10 < sizeLine := sz_lt' (by decide)
@[simp] theorem sle11 : 11 ≤ sizeLine := sz_le (by decide)
@[simp] theorem slt_11 : 11 < sizeLine := sz_lt' (by decide)
@[simp] theorem sle12 : 12 ≤ sizeLine := sz_le (by decide)
@[simp] theorem slt_12 : 12 < sizeLine := sz_lt' (by decide)
@[simp] theorem sle13 : 13 ≤ sizeLine := sz_le (by decide)
@[simp] theorem slt_13 : 13 < sizeLine := sz_lt' (by decide)
@[simp] theorem sle14 : 14 ≤ sizeLine := sz_le (by decide)
@[simp] theorem slt_14 : 14 < sizeLine := sz_lt' (by decide)
@[simp] theorem sle15 : 15 ≤ sizeLine := sz_le (by decide)
@[simp] theorem slt_15 : 15 < sizeLine := sz_lt' (by decide)
@[simp] theorem sle16 : 16 ≤ sizeLine := sz_le (by decide)
@[simp] theorem slt_16 : 16 < sizeLine := sz_lt' (by decide)
@[simp] theorem sle17 : 17 ≤ sizeLine := sz_le (by decide)
@[simp] theorem slt_17 : 17 < sizeLine := sz_lt' (by decide)
@[simp] theorem sle18 : 18 ≤ sizeLine := sz_le (by decide)
@[simp] theorem slt_18 : 18 < sizeLine := sz_lt' (by decide)
@[simp] theorem sle19 : 19 ≤ sizeLine := sz_le (by decide)
@[simp] theorem slt_19 : 19 < sizeLine := sz_lt' (by decide)
@[simp] theorem sle20 : 20 ≤ sizeLine := sz_le (by decide)
@[simp] theorem slt_20 : 20 < sizeLine := sz_lt' (by decide)
@[simp] theorem sle21 : 21 ≤ sizeLine := sz_le (by decide)
@[simp] theorem slt_21 : 21 < sizeLine := sz_lt' (by decide)
@[simp] theorem sle22 : 22 ≤ sizeLine := sz_le (by decide)
@[simp] theorem slt_22 : 22 < sizeLine := sz_lt' (by decide)
@[simp] theorem sle23 : 23 ≤ sizeLine := sz_le (by decide)
@[simp] theorem slt_23 : 23 < sizeLine := sz_lt' (by decide)
@[simp] theorem sle24 : 24 ≤ sizeLine := sz_le (by decide)
@[simp] theorem slt_24 : 24 < sizeLine := sz_lt' (by decide)
@[simp] theorem sle25 : 25 ≤ sizeLine := sz_le (by decide)
@[simp] theorem slt_25 : 25 < sizeLine := sz_lt' (by decide)
@[simp] theorem sle26 : 26 ≤ sizeLine := sz_le (by decide)
@[simp] theorem slt_26 : 26 < sizeLine := sz_lt' (by decide)
@[simp] theorem sle27 : 27 ≤ sizeLine := sz_le (by decide)
@[simp] theorem slt_27 : 27 < sizeLine := sz_lt' (by decide)
@[simp] theorem sle28 : 28 ≤ sizeLine := sz_le (by decide)
@[simp] theorem slt_28 : 28 < sizeLine := sz_lt' (by decide)
@[simp] theorem sle29 : 29 ≤ sizeLine := sz_le (by decide)
@[simp] theorem slt_29 : 29 < sizeLine := sz_lt' (by decide)
@[simp] theorem sle30 : 30 ≤ sizeLine := sz_le (by decide)
@[simp] theorem slt_30 : 30 < sizeLine := sz_lt' (by decide)
@[simp] theorem sle31 : 31 ≤ sizeLine := sz_le (by decide)
@[simp] theorem slt_31 : 31 < sizeLine := sz_lt' (by decide)
@[simp] theorem sle32 : 32 ≤ sizeLine := sz_le (by decide)
@[simp] theorem slt_32 : 32 < sizeLine := sz_lt' (by decide)
@[simp] theorem sle33 : 33 ≤ sizeLine := sz_le (by decide)
@[simp] theorem slt_33 : 33 < sizeLine := sz_lt' (by decide)
@[simp] theorem sle34 : 34 ≤ sizeLine := sz_le (by decide)
@[simp] theorem slt_34 : 34 < sizeLine := sz_lt' (by decide)
@[simp] theorem sle35 : 35 ≤ sizeLine := sz_le (by decide)
@[simp] theorem slt_35 : 35 < sizeLine := sz_lt' (by decide)
@[simp] theorem sle36 : 36 ≤ sizeLine := sz_le (by decide)
@[simp] theorem slt_36 : 36 < sizeLine := sz_lt' (by decide)
@[simp] theorem sle37 : 37 ≤ sizeLine := sz_le (by decide)
@[simp] theorem slt_37 : 37 < sizeLine := sz_lt' (by decide)
@[simp] theorem sle38 : 38 ≤ sizeLine := sz_le (by decide)
@[simp] theorem slt_38 : 38 < sizeLine := sz_lt' (by decide)
@[simp] theorem sle39 : 39 ≤ sizeLine := sz_le (by decide)
@[simp] theorem slt_39 : 39 < sizeLine := sz_lt' (by decide)
@[simp] theorem sle40 : 40 ≤ sizeLine := sz_le (by decide)
@[simp] theorem slt_40 : 40 < sizeLine := sz_lt' (by decide)
@[simp] theorem x_ixD_own (r : Rho) (i : Nat) (k : Int) : ixD r (.own i) (.int k) = (match r[i]? with
  | some (.ol ds) => (match L2.atI ds k with
    | some d => .ok d
    | none => .stuck)
  | _ => .stuck) := by
  show (match viewD r (.own i) with
    | some ds => (match L2.atI ds k with
      | some d => R.ok d
      | none => R.stuck)
    | none => R.stuck) = _
  simp only [viewD]
  cases r[i]? with
  | none => rfl
  | some x => cases x <;> rfl
@[simp] theorem x_tupleD_own (r : Rho) (i : Nat) : tupleD r [.own i] = (match r[i]? with
  | some (.ol ds) => .ok (.tup ds)
  | _ => .stuck) := by
  show (match viewL r (.own i) with
    | some ds => R.ok (D.tup ds)
    | none => R.stuck) = _
  simp only [viewL]
  cases r[i]? with
  | none => rfl
  | some x => cases x <;> rfl
end PL
end
section
namespace PL
open PySem PySem.Spec PyProof.Rows L2 PL.G
def isNmS (x : Str) : Bool := (decide (1 ≤ x.length) && decide (x.length ≤ 6)) && x.cps.toList.all fun c => decide (c ∈ (Str.ofString "abcdefghijklmnopqrstuvwxyz").cps.toList)
def isNmD : D → Bool
  | .str x => isNmS x
  | _ => false
theorem F_isnameS {x : Str} (hl : x.length ≤ 100) : F_is_name [.str x] = .ok (.bl (isNmS x)) := by
  have q : fLc [1] (.nm 1) (fIt true (fVar 0)) (fun _ => .ok true) (fBin (inG false) (fVar 1) (fK d_SMALL)) [.im (.str x), .un] = .ok ((x.cps.toList.map fun c => decide (c ∈ (Str.ofString "abcdefghijklmnopqrstuvwxyz").cps.toList)).map D.bl) := by
    refine fLc_ok (X := signs x) (by simp [itemsD]) ?_ ?_
    · have : (signs x).length = x.length := by simp [signs, Str.length]
      omega
    · have q := lcGo_all (t := .nm 1) (fe := fBin (inG false) (fVar 1) (fK d_SMALL)) (r := wipeR [.im (.str x), .un] [1]) (fun c : Nat => D.str ⟨#[c]⟩) (fun c => D.bl (decide (c ∈ (Str.ofString "abcdefghijklmnopqrstuvwxyz").cps.toList))) x.cps.toList (fun c _ => ⟨[.im (.str x), .im (.str ⟨#[c]⟩)], by simp, by
        have e : inG false [.im (.str x), .im (.str ⟨#[c]⟩)] (.str ⟨#[c]⟩) d_SMALL = .ok (.bl (decide (c ∈ (Str.ofString "abcdefghijklmnopqrstuvwxyz").cps.toList))) := rfl
        simp [e], rfl⟩)
      rw [List.map_map]
      exact q
  have al : fCallB (allD fun bs => bs.all id) (fConsB (fL (fLc [1] (.nm 1) (fIt true (fVar 0)) (fun _ => .ok true) (fBin (inG false) (fVar 1) (fK d_SMALL)))) fNil) [.im (.str x), .un] = .ok (.bl (x.cps.toList.all fun c => decide (c ∈ (Str.ofString "abcdefghijklmnopqrstuvwxyz").cps.toList))) := by
    rw [x_fCallB, x_fConsB, x_fL, q]
    simp only [bnd_ok, x_fNil]
    unfold allD viewL
    simp only [boolsOf_map]
    rw [List.all_map]
    rfl
  have ln : ∀ r, lenD r [.str x] = .ok (.int x.length) := fun r => by
    unfold lenD
    simp [show x.length ≤ sizeLine from sz_le (by omega)]
  have lg : d_LONGEST = .int 6 := rfl
  refine run_rt (r0 := [.im (.str x), .un]) rfl ?_
  unfold isNmS
  unfold B_is_name
  rw [x_fRet, x_fAndV, show fIsi ["str"] (fVar 0) [.im (.str x), .un] = .ok (.bl true) from rfl, bnd_ok, x_boolOf, bnd_ok, if_pos rfl, x_fAndV]
  have ch : fChain leD leD (fK (.int 1)) (fCallB lenD (fConsB (fVar 0) fNil)) (fK d_LONGEST) [.im (.str x), .un] = .ok (.bl (decide (1 ≤ x.length) && decide (x.length ≤ 6))) := by
    by_cases h1 : 1 ≤ x.length
    · have h1' : (1 : Int) ≤ x.length := by omega
      by_cases h6 : x.length ≤ 6
      · have h6' : (x.length : Int) ≤ 6 := by omega
        simp [ln, lg, h1, h6, h1', h6']
      · have h6' : ¬ (x.length : Int) ≤ 6 := by omega
        simp [ln, lg, h1, h6, h1', h6']
    · have h1' : ¬ (1 : Int) ≤ x.length := by omega
      simp [ln, lg, h1, h1']
  rw [ch, bnd_ok, x_boolOf, bnd_ok]
  cases (decide (1 ≤ x.length) && decide (x.length ≤ 6)) with
  | false => rfl
  | true => rw [if_pos rfl, al]; rfl
theorem F_isnameD {w n : Nat} {d : D} (h : Lv w n d) : F_is_name [d] = .ok (.bl (isNmD d)) := by
  rcases h.cases2 with rfl | ⟨b, rfl⟩ | ⟨i, rfl, hi⟩ | ⟨x, rfl, _, hl⟩ | ⟨ds, rfl, _⟩
  · simp [F_is_name, x_runF, B_is_name, isNmD]
  · simp [F_is_name, x_runF, B_is_name, isNmD]
  · simp [F_is_name, x_runF, B_is_name, isNmD]
  · exact F_isnameS hl
  · simp [F_is_name, x_runF, B_is_name, isNmD]
def hasD (b : Bk) : D → Bool
  | .str x => decide (x ∈ nms b)
  | _ => false
theorem nm_len {x : Str} (h : Nm x) : x.length ≤ 100 := h.2.2.1
theorem F_hasD {m w n : Nat} {b : Bk} {d : D} (h : Bok m b) (hd : Lv w n d) : F_has_name [bkD b, d] = .ok (.bl (hasD b d)) := by
  have e := F_isnameD hd
  have im := hd.im
  have h6 := h.l6
  cases hn : isNmD d with
  | false =>
    have z : hasD b d = false := by
      cases d <;> first | rfl | skip
      rename_i x
      show decide (x ∈ nms b) = false
      refine decide_eq_false fun hx => ?_
      have nx := h.nmOk hx
      have e1 := nm_name nx
      have e2 := F_isnameS (nm_len nx)
      rw [e1] at e2
      injection e2 with e2
      injection e2 with e2
      rw [show isNmD (.str x) = isNmS x from rfl, ← e2] at hn
      cases hn
    rw [z]
    rw [hn] at e
    simp only [F_has_name, x_runF, B_has_name]
    simp [e, im]
  | true =>
    obtain ⟨x, rfl⟩ : ∃ x, d = .str x := by cases d <;> first | exact ⟨_, rfl⟩ | cases hn
    rw [hn] at e
    have l := lc_firsts (i := 2) (r := [.im (bkD b), .im (.str x), .un]) (fi := fIt true (fVar 0)) (b := b) rfl (by omega) (by simp)
    refine run_rt (r0 := [.im (bkD b), .im (.str x), .un]) rfl ?_
    refine ret_of ?_ rfl
    rw [x_fAndV, call_1 (a := .str x) rfl rfl e]
    simp only [bnd_ok, x_boolOf, if_true]
    rw [x_fBin, fL_of l, x_fVar]
    exact in_strs [.im (bkD b), .im (.str x), .un] false x (nms b)
end PL
end
section
namespace PL
open PySem PySem.Spec PyProof.Rows L2 PL.G
end PL
end
section
namespace PL
open PySem PySem.Spec PyProof.Rows L2 PL.G
noncomputable def bkPre (tl : Rho → R Fl) : Rho → R Fl := (fSeq (fAsg (.nm 2) (fBin addD (fK (.int 1)) (fCall 3 F_u_law_pick (fCons (fVar 0) (fCons (fVar 1) (fCons (fK (.int 4)) fNil))))))
    (fSeq (fAsg (.nm 3) (fL (fLst (fCons (fK (.str (Str.ofString "a"))) (fCons (fK (.str (Str.ofString "idle"))) (fCons (fK (.str (Str.ofString "run"))) (fCons (fK (.str (Str.ofString "walk"))) (fCons (fK (.str (Str.ofString "z"))) (fCons (fK (.str (Str.ofString "zeal"))) fNil)))))))))
    (fSeq (fAsg (.nm 4) (fL (fLc [6, 7] (.tp [(.nm 6), (.nm 7)]) (fEnum true (fConsB (fVar 3) fNil)) (fTest (fBin gtI (fCall 3 F_u_law_pick (fCons (fVar 0) (fCons (fBin addD (fBin addD (fVar 1) (fK (.int 1))) (fVar 6)) (fCons (fK (.int 3)) fNil)))) (fK (.int 0)))) (fVar 7))))
    (fSeq (fAsgN 5 (fLst fNil))
    (fSeq (fFor (.tp [(.nm 6), (.nm 7)]) (fEnum false (fConsB (fIf (fTest (fBin neD (fVar 4) (fL (fLst fNil)))) (fVar 4) (fL (fLst (fCons (fK (.str (Str.ofString "sole"))) fNil)))) fNil)) (fSeq (fAsg (.nm 8) (fBin ixD (fL (fLst (fCons (fK (.int 3)) (fCons (fK (.int 20)) (fCons (fK (.int 1000)) fNil))))) (fCall 3 F_u_law_pick (fCons (fVar 0) (fCons (fBin addD (fBin addD (fVar 1) (fK (.int 10))) (fVar 6)) (fCons (fK (.int 3)) fNil))))))
    (fSeq (fAsg (.nm 9) (fBin addD (fBin addD (fVar 1) (fK (.int 20))) (fBin mulD (fK (.int 4)) (fVar 6))))
    (fApp 5 (fTup (fCons (fVar 7) (fCons (fCallB tupleD (fConsB (fL (fLc [10] (.nm 10) (fRg rangeD1 (fCons (fVar 2) fNil)) (fun _ => .ok true) (fBin addD (fBin subI (fCall 3 F_u_law_pick (fCons (fVar 0) (fCons (fBin addD (fVar 9) (fVar 10)) (fCons (fBin subI (fBin mulD (fK (.int 2)) (fVar 8)) (fK (.int 1))) fNil)))) (fVar 8)) (fK (.int 1))))) fNil)) fNil)))))))
    tl)))))
theorem book_pre (ns : List Int) (at' : Int) (h0 : 0 ≤ at') : ∃ m b, Bok m b ∧ ∀ tl : Rho → R Fl, ∃ y2 y3 y4 y6 y7 y8 y9 : Sl, bkPre tl [.im (.scr ns), .im (.int at'), .un, .un, .un, .un, .un, .un, .un, .un, .un] = tl [.im (.scr ns), .im (.int at'), y2, y3, y4, .ol (b.map pD), y6, y7, y8, y9, .un] := by
  obtain ⟨p1, p1a, p1b⟩ := pick_ok ns at' 4 h0 (by omega)
  obtain ⟨m, hmE, hm1, hm⟩ : ∃ m : Nat, 1 + pk ns at' 4 = m ∧ 1 ≤ m ∧ m ≤ 4 := ⟨(1 + pk ns at' 4).toNat, by omega, by omega, by omega⟩
  refine ⟨m, bBook ns at' m, bBook_ok ns at' m h0 hm1 hm, fun tl => ?_⟩
  unfold bkPre
  rw [seq_nx (r' := [.im (.scr ns), .im (.int at'), .im (.int m), .un, .un, .un, .un, .un, .un, .un, .un]) (asg_to (d := .int m) (by simp [p1, hmE]) rfl (by simp) rfl)]
  have sz6 : 6 ≤ sizeLine := sz_le (by decide)
  rw [seq_nx (r' := [.im (.scr ns), .im (.int at'), .im (.int m), .im (.lst (lawNames.map .str)), .un, .un, .un, .un, .un, .un, .un]) (asg_to (d := .lst (lawNames.map .str)) (by simp [sz6, lawNames]) rfl (by simp) rfl)]
  have l : fLc [6, 7] (.tp [(.nm 6), (.nm 7)]) (fEnum true (fConsB (fVar 3) fNil)) (fTest (fBin gtI (fCall 3 F_u_law_pick (fCons (fVar 0) (fCons (fBin addD (fBin addD (fVar 1) (fK (.int 1))) (fVar 6)) (fCons (fK (.int 3)) fNil)))) (fK (.int 0)))) (fVar 7) [.im (.scr ns), .im (.int at'), .im (.int m), .im (.lst (lawNames.map .str)), .un, .un, .un, .un, .un, .un, .un] = .ok ((bNames ns at').map .str) := by
    refine fLc_ok (X := (enl 0 lawNames).map enD) ?_ (by simp [enl_len, lawNames]) ?_
    · rw [← enl_enum]; rfl
    · have q := lcGo_typed (t := .tp [(.nm 6), (.nm 7)]) (ft := fTest (fBin gtI (fCall 3 F_u_law_pick (fCons (fVar 0) (fCons (fBin addD (fBin addD (fVar 1) (fK (.int 1))) (fVar 6)) (fCons (fK (.int 3)) fNil)))) (fK (.int 0)))) (fe := fVar 7) (r := wipeR [.im (.scr ns), .im (.int at'), .im (.int m), .im (.lst (lawNames.map .str)), .un, .un, .un, .un, .un, .un, .un] [6, 7]) enD (fun x => decide (0 < pk ns (at' + 1 + x.1) 3)) (fun x => .str x.2) (enl 0 lawNames) (fun x hx => ⟨[.im (.scr ns), .im (.int at'), .im (.int m), .im (.lst (lawNames.map .str)), .un, .un, .im (.int x.1), .im (.str x.2), .un, .un, .un], by simp [enD], by
          have e := (pick_ok ns (at' + 1 + x.1) 3 (by omega) (by omega)).1
          simp [e], fun _ => ⟨by simp, rfl⟩⟩)
      rw [q]
      unfold bNames
      rw [List.map_map]; rfl
  rw [seq_nx (r' := [.im (.scr ns), .im (.int at'), .im (.int m), .im (.lst (lawNames.map .str)), .im (.lst ((bNames ns at').map .str)), .un, .un, .un, .un, .un, .un]) (asg_to (fL_of l) rfl (by simp) rfl)]
  rw [seq_nx (r' := [.im (.scr ns), .im (.int at'), .im (.int m), .im (.lst (lawNames.map .str)), .im (.lst ((bNames ns at').map .str)), .ol [], .un, .un, .un, .un, .un]) (by simp)]
  have hd : Dep 1 (.lst ((bNames ns at').map .str)) := dep_lst (n := 0) fun d hd => by
    obtain ⟨x, hx, rfl⟩ := List.mem_map.mp hd
    exact dep_str 0 (nm_ok (nm0_nm (.inl ((bNames_sub ns at').subset hx))))
  have en : fEnum false (fConsB (fIf (fTest (fBin neD (fVar 4) (fL (fLst fNil)))) (fVar 4) (fL (fLst (fCons (fK (.str (Str.ofString "sole"))) fNil)))) fNil) [.im (.scr ns), .im (.int at'), .im (.int m), .im (.lst (lawNames.map .str)), .im (.lst ((bNames ns at').map .str)), .ol [], .un, .un, .un, .un, .un] = .ok ((enl 0 (bNames2 ns at')).map enD) := by
    have e := fun r => neD_nil (r := r) hd (by decide)
    rw [← enl_enum]
    unfold bNames2
    cases hb : bNames ns at' with
    | nil =>
      rw [hb] at e
      simp at e
      simp [e, enumD, viewB]
    | cons x xs =>
      rw [hb] at e
      simp at e
      simp [e, enumD, viewB]
  have len6 := (bNames2_ok ns at').2.2.2
  have fo := forGo_fold (t := .tp [(.nm 6), (.nm 7)]) (fb := bkB) enD (fun s : Bk × Sl × Sl × Sl × Sl => [.im (.scr ns), .im (.int at'), .im (.int m), .im (.lst (lawNames.map .str)), .im (.lst ((bNames ns at').map .str)), .ol (s.1.map pD), s.2.1, s.2.2.1, s.2.2.2.1, s.2.2.2.2, .un])
    (fun s x => (s.1 ++ [(x.2, bStand ns at' m x.1)], .im (.int x.1), .im (.str x.2), .im (.int (bTop ns at' x.1)), .im (.int (at' + 20 + 4 * x.1))))
    (fun xs s => s.1.length + xs.length ≤ 6) (enl 0 (bNames2 ns at')) ([], .un, .un, .un, .un) (by simp [enl_len]; exact len6) (fun x xs s hP => by
      rw [List.length_cons] at hP
      refine ⟨by simp; omega, [.im (.scr ns), .im (.int at'), .im (.int m), .im (.lst (lawNames.map .str)), .im (.lst ((bNames ns at').map .str)), .ol (s.1.map pD), .im (.int x.1), .im (.str x.2), s.2.2.2.1, s.2.2.2.2, .un], by simp [enD], .inl (bk_body h0 hm (by omega))⟩)
  have q2 : ∀ (xs : List (Nat × Str)) (s : Bk × Sl × Sl × Sl × Sl), (xs.foldl (fun (s : Bk × Sl × Sl × Sl × Sl) (x : Nat × Str) => (s.1 ++ [(x.2, bStand ns at' m x.1)], Sl.im (.int x.1), Sl.im (.str x.2), Sl.im (.int (bTop ns at' x.1)), Sl.im (.int (at' + 20 + 4 * x.1)))) s).1 = s.1 ++ xs.map fun x => (x.2, bStand ns at' m x.1) := fun xs => by
    induction xs with
    | nil => intro s; simp
    | cons x xs ih => intro s; rw [List.foldl_cons, ih]; simp
  rw [q2] at fo
  rw [seq_nx (for_go en fo)]
  exact ⟨_, _, _, _, _, _, _, rfl⟩
def raw (p : Int × Int) : D := .tup [.int p.1, .int p.2]
def rq (p : Int × Int) : Rat := Rat.divInt p.1 p.2
def rst (s p : Int × Int) : Int × Int := (s.1 * p.2 + p.1 * s.2, s.2 * p.2)
theorem rq_mul {p : Int × Int} (h : 0 < p.2) : (p.1 : Rat) = rq p * (p.2 : Rat) := by
  have dr : (p.2 : Rat) ≠ 0 := fun z => by have := Rat.intCast_eq_zero_iff.mp z; omega
  unfold rq
  rw [Rat.divInt_eq_div]
  exact (Rat.div_mul_cancel dr).symm
theorem rst_fold (ps : List (Int × Int)) : ∀ (s : Int × Int) (S : Rat), (∀ p ∈ ps, 0 < p.2) → 0 < s.2 → (s.1 : Rat) = S * (s.2 : Rat) → 0 < (ps.foldl rst s).2 ∧ ((ps.foldl rst s).1 : Rat) = (S + sumR (ps.map rq)) * ((ps.foldl rst s).2 : Rat) := by
  induction ps with
  | nil => intro s S _ h0 h; refine ⟨h0, ?_⟩; rw [List.map_nil, sumR_nil, Rat.add_zero]; exact h
  | cons p ps ih =>
    intro s S hp h0 h
    have e := rq_mul (hp p List.mem_cons_self)
    have i := ih (rst s p) (S + rq p) (fun x hx => hp x (List.mem_cons_of_mem _ hx)) (Int.mul_pos h0 (hp p List.mem_cons_self)) (by
      show ((s.1 * p.2 + p.1 * s.2 : Int) : Rat) = (S + rq p) * ((s.2 * p.2 : Int) : Rat)
      rw [Rat.intCast_add, Rat.intCast_mul, Rat.intCast_mul, Rat.intCast_mul, h, e]
      grind)
    refine ⟨i.1, ?_⟩
    rw [List.foldl_cons, i.2, List.map_cons, sumR_cons]
    grind
theorem lawsumR {k : Nat} {A : D} {ps : List (Int × Int)} (hA : SeqOf A (ps.map raw)) (hp : ∀ p ∈ ps, 0 < p.2) (hs : ∀ p ∈ ps, p.1.natAbs < 2 ^ k ∧ p.2.natAbs < 2 ^ k) (hb : (k + 1) * ps.length ≤ 8000) : F_u_law_sum [A] = .ok (fr (sumR (ps.map rq))) := by
  have fo := forGo_fold (t := .nm 1) (fb := fPar 2 3 (fCons (fBin addD (fBin mulD (fVar 2) (fBin ixD (fVar 1) (fK (.int 1)))) (fBin mulD (fBin ixD (fVar 1) (fK (.int 0))) (fVar 3))) (fCons (fBin mulD (fVar 3) (fBin ixD (fVar 1) (fK (.int 1)))) fNil))) raw (fun s : (Int × Int) × Sl => [.im A, s.2, .im (.int s.1.1), .im (.int s.1.2)]) (fun s q => (rst s.1 q, .im (raw q)))
    (fun xs s => (∀ p ∈ xs, p.1.natAbs < 2 ^ k ∧ p.2.natAbs < 2 ^ k) ∧ ∃ c, s.1.1.natAbs < 2 ^ c ∧ s.1.2.natAbs < 2 ^ c ∧ c + (k + 1) * xs.length ≤ 8001) ps ((0, 1), .un) ⟨hs, 1, by simp, by simp, by omega⟩ (fun q xs s hP => by
      obtain ⟨p1, c, p2, p3, p4⟩ := hP
      rw [List.length_cons, Nat.mul_succ] at p4
      have hq := p1 q List.mem_cons_self
      have b1 := mul_bits p2 hq.2
      have b2 := mul_bits hq.1 p3
      have b3 := mul_bits p3 hq.2
      rw [Nat.add_comm k c] at b2
      have b4 := add_bits b1 b2
      have m1 : mulB s.1.1 q.2 = true := mulB_bits p2 hq.2 (by omega)
      have m2 : mulB q.1 s.1.2 = true := mulB_bits hq.1 p3 (by omega)
      have m3 : mulB s.1.2 q.2 = true := mulB_bits p3 hq.2 (by omega)
      refine ⟨⟨fun x hx => p1 x (List.mem_cons_of_mem _ hx), c + k + 1, b4, Nat.lt_of_lt_of_le b3 (Nat.pow_le_pow_right (by decide) (by omega)), by omega⟩, [.im A, .im (raw q), .im (.int s.1.1), .im (.int s.1.2)], by simp, .inl ?_⟩
      simp [raw, m1, m2, m3, rst])
  obtain ⟨s', hs'⟩ : ∃ s' : (Int × Int) × Sl, s' = ps.foldl (fun (s : (Int × Int) × Sl) q => (rst s.1 q, Sl.im (raw q))) ((0, 1), .un) := ⟨_, rfl⟩
  rw [← hs'] at fo
  have q2 : ∀ (xs : List (Int × Int)) (s : (Int × Int) × Sl), (xs.foldl (fun (s : (Int × Int) × Sl) q => (rst s.1 q, Sl.im (raw q))) s).1 = xs.foldl rst s.1 := fun xs => by
    induction xs with
    | nil => intro s; rfl
    | cons x xs ih => intro s; exact ih _
  have e1 : s'.1 = ps.foldl rst (0, 1) := by rw [hs', q2]
  obtain ⟨i1, i2⟩ := rst_fold ps (0, 1) 0 hp (by decide) (by simp)
  rw [← e1] at i1 i2
  have bits : ∀ (xs : List (Int × Int)) (c : Nat) (s : Int × Int), (∀ p ∈ xs, p.1.natAbs < 2 ^ k ∧ p.2.natAbs < 2 ^ k) → s.2.natAbs < 2 ^ c → (xs.foldl rst s).2.natAbs < 2 ^ (c + k * xs.length) := fun xs => by
    induction xs with
    | nil => intro c s _ h; simpa using h
    | cons q xs ih =>
      intro c s hq h
      have := ih (c + k) (rst s q) (fun x hx => hq x (List.mem_cons_of_mem _ hx)) (mul_bits h (hq q List.mem_cons_self).2)
      rw [List.length_cons, Nat.mul_succ]
      have e : c + (k * xs.length + k) = c + k + k * xs.length := by omega
      rw [e]
      exact this
  have b2 := bits ps 1 (0, 1) hs (by decide)
  rw [← e1] at b2
  have lo := F_low_ok (u := s'.1.1) (d := s'.1.2) (n := 1 + k * ps.length) (by omega) b2 (by rw [Nat.succ_mul] at hb; omega)
  rw [divInt_is (q := sumR (ps.map rq)) (by omega) (by rw [i2]; grind)] at lo
  refine run_rt (r0 := [.im A, .un, .un, .un]) rfl ?_
  refine seq_go (r' := [.im A, .un, .im (.int 0), .im (.int 1)]) rfl ?_
  refine seq_go (for_go (ds := ps.map raw) (hA.items false _) fo) ?_
  exact ret_of (call_2 (a := .int s'.1.1) (b := .int s'.1.2) rfl rfl rfl rfl lo) rfl
end PL
end
section
namespace PL
open PySem PySem.Spec PyProof.Rows L2 PL.G
def bkN (b : Bk) : D := .tpn (b.map pD)
def dkB (b : Bk) : List (Key × D) := b.map fun p => (.inr p.1, .tup (p.2.map .int))
theorem pairs_bk : ∀ b : Bk, pairsD (b.map pD) = some (dkB b)
  | [] => rfl
  | p :: b => by
    have ih := pairs_bk b
    simp only [List.map_cons, pD, pairsD, keyD, ih, dkB]
theorem merge_bk : ∀ (b : Bk) (acc : List (Key × D)), (b.map (·.1)).Nodup → (∀ p ∈ b, ∀ kv ∈ acc, kv.1 ≠ .inr p.1) → mergeD acc (dkB b) = acc ++ dkB b
  | [], acc, _, _ => by simp [mergeD, dkB]
  | p :: b, acc, hn, ha => by
    rw [List.map_cons, List.nodup_cons] at hn
    have e : putD acc (.inr p.1) (.tup (p.2.map .int)) = acc ++ [(.inr p.1, .tup (p.2.map .int))] := by
      unfold putD
      rw [if_neg]
      simp only [List.any_eq_true, decide_eq_true_eq, not_exists, not_and]
      exact fun kv hk => ha p List.mem_cons_self kv hk
    show mergeD (putD acc (.inr p.1) (.tup (p.2.map .int))) (dkB b) = _
    rw [e, merge_bk b _ hn.2 (fun q hq kv hk => ?_)]
    · simp [dkB]
    · rcases List.mem_append.mp hk with hk | hk
      · exact ha q (List.mem_cons_of_mem _ hq) kv hk
      · rw [List.mem_singleton.mp hk]
        intro z
        have z2 : p.1 = q.1 := Sum.inr.inj z
        exact hn.1 (z2 ▸ List.mem_map_of_mem hq)
theorem dict_bk {m : Nat} {b : Bk} (h : Bok m b) (r : Rho) : dictD r [bkN b] = .ok (.dic (dkB b)) := by
  show (match pairsD (b.map pD) with
    | some ks => R.ok (D.dic (mergeD [] ks))
    | none => R.stuck) = _
  rw [pairs_bk]
  simp only
  rw [merge_bk b [] h.nodup (fun _ _ _ h => by cases h)]
  rfl
theorem val_bk : ∀ {b : Bk}, (b.map (·.1)).Nodup → ∀ p ∈ b, valD (dkB b) (.inr p.1) = some (.tup (p.2.map .int))
  | [], _, p, h => by cases h
  | q :: b, hn, p, h => by
    rw [List.map_cons, List.nodup_cons] at hn
    unfold valD dkB
    rw [List.map_cons, List.find?_cons]
    by_cases e : q.1 = p.1
    · have : q = p := by
        rcases List.mem_cons.mp h with rfl | h
        · rfl
        · exact absurd (e ▸ List.mem_map_of_mem h) hn.1
      subst this
      simp
    · have hp : p ∈ b := by
        rcases List.mem_cons.mp h with rfl | h
        · exact absurd rfl e
        · exact h
      have : decide ((Sum.inr q.1 : Key) = .inr p.1) = false := decide_eq_false fun z => e (Sum.inr.inj z)
      rw [this]
      exact val_bk hn.2 p hp
theorem F_lawworths {m k : Nat} {b : Bk} {w : Str → Rat} {A : D} (h : Bok m b) (hw : ∀ n ∈ nms b, Sm k (w n)) (hk : k ≤ 900) (hA : SeqOf A ((canon (nms b) w).map pr)) :
    F_u_law_worths [bkN b, A] = .ok (.tup ((List.range m).map fun j => fr (wor b w j))) := by
  have h6 := h.nlen
  have m4 := h.m4
  have h1 := h.l1
  have cl := canon_len (nms b) w
  obtain ⟨p0, b0, hb0⟩ : ∃ p0 b0, b = p0 :: b0 := by
    cases b with
    | nil => simp at h1
    | cons p0 b0 => exact ⟨p0, b0, rfl⟩
  have hp0 : p0 ∈ b := by rw [hb0]; exact List.mem_cons_self
  have i0 : ∀ r, ixD r (bkD b) (.int 0) = .ok (pD p0) := fun r => by rw [hb0]; simp [bkD]
  let R0 := fun (x2 x3 x4 : Sl) => ([.im (bkN b), .im A, x2, x3, x4, .un, .un] : Rho)
  have wk : ∀ x2 x3 x4, fWk (fVar 0) (R0 x2 x3 x4) = .ok (bkD b) := fun _ _ _ => rfl
  have rg : fRg rangeD1 (fCons (fCallB lenD (fConsB (fBin ixD (fBin ixD (fWk (fVar 0)) (fK (.int 0))) (fK (.int 1))) fNil)) fNil) (R0 .un (.im (.dic (dkB b))) (.ol [])) = .ok ((List.range m).map fun (i : Nat) => D.int (i : Int)) := by
    have q := rangeD1_ok m (by omega)
    simp only [x_fRg, x_fCons, x_fCallB, x_fConsB, x_fBin, wk, bnd_ok, fK, i0]
    simp [pD, h.ln p0 hp0, q]
  have fo := forGo_fold (t := .nm 2) (fb := fApp 4 (fCall 1 F_u_law_sum (fCons (fL (fLc [5, 6] (.tp [(.nm 5), (.nm 6)]) (fIt true (fVar 1)) (fun _ => .ok true) (fTup (fCons (fBin mulD (fBin ixD (fVar 6) (fK (.int 0))) (fBin ixD (fDGet (fDV 3) (fVar 5)) (fVar 2))) (fCons (fBin ixD (fVar 6) (fK (.int 1))) fNil))))) fNil))) (fun (i : Nat) => D.int (i : Int)) (fun s : List D × Sl => R0 s.2 (.im (.dic (dkB b))) (.ol s.1))
    (fun s j => (s.1 ++ [fr (wor b w j)], .im (.int (j : Nat)))) (fun xs s => (∀ x ∈ xs, x < m) ∧ s.1.length + xs.length ≤ 100) (List.range m) ([], .un) ⟨fun x hx => List.mem_range.mp hx, by simp; omega⟩ (fun j xs s hP => by
      obtain ⟨p1, p2⟩ := hP
      have hj := p1 j List.mem_cons_self
      rw [List.length_cons] at p2
      refine ⟨⟨fun y hy => p1 y (List.mem_cons_of_mem _ hy), by simp; omega⟩, R0 (.im (.int (j : Nat))) (.im (.dic (dkB b))) (.ol s.1), by simp [R0], .inl ?_⟩
      have l : fLc [5, 6] (.tp [(.nm 5), (.nm 6)]) (fIt true (fVar 1)) (fun _ => .ok true) (fTup (fCons (fBin mulD (fBin ixD (fVar 6) (fK (.int 0))) (fBin ixD (fDGet (fDV 3) (fVar 5)) (fVar 2))) (fCons (fBin ixD (fVar 6) (fK (.int 1))) fNil))) (R0 (.im (.int (j : Nat))) (.im (.dic (dkB b))) (.ol s.1)) = .ok (((canon (nms b) w).map fun x => ((x.2.num * stV b x.1 j, (x.2.den : Int)) : Int × Int)).map raw) := by
        refine fLc_ok (X := (canon (nms b) w).map pr) (hA.items true _) (by simp; omega) ?_
        rw [List.map_map]
        refine lcGo_all (t := .tp [(.nm 5), (.nm 6)]) pr (raw ∘ fun x => ((x.2.num * stV b x.1 j, (x.2.den : Int)) : Int × Int)) (canon (nms b) w) fun x hx => ⟨[.im (bkN b), .im A, .im (.int (j : Nat)), .im (.dic (dkB b)), .ol s.1, .im (.str x.1), .im (fr x.2)], by simp [R0, pr], ?_, rfl⟩
        obtain ⟨c1, c2, c3⟩ := canon_mem.mp hx
        obtain ⟨p, hp, hpx⟩ := List.mem_map.mp c1
        have v := val_bk h.nodup p hp
        rw [hpx] at v
        have i := ix_ints [.im (bkN b), .im A, .im (.int (j : Nat)), .im (.dic (dkB b)), .ol s.1, .im (.str x.1), .im (fr x.2)] p.2 j (by rw [h.ln p hp]; exact hj)
        rw [← stV_of h.nodup hp j, hpx] at i
        have sx : Sm k x.2 := by rw [c3]; exact hw _ c1
        have sv := stV_sm h x.1 j
        have mm : mulB x.2.num (stV b x.1 j) = true := mulB_bits sx.1 (m := 10) (by have := sv.1; simpa using this) (by omega)
        have dg : fDGet (fDV 3) (fVar 5) [.im (bkN b), .im A, .im (.int (j : Nat)), .im (.dic (dkB b)), .ol s.1, .im (.str x.1), .im (fr x.2)] = .ok (.tup (p.2.map .int)) := by
          show (match valD (dkB b) (.inr x.1) with
            | some d => R.ok d
            | none => R.stuck) = _
          rw [v]
        have ie : fBin ixD (fDGet (fDV 3) (fVar 5)) (fVar 2) [.im (bkN b), .im A, .im (.int (j : Nat)), .im (.dic (dkB b)), .ol s.1, .im (.str x.1), .im (fr x.2)] = .ok (.int (stV b x.1 j)) := by
          rw [x_fBin, dg, bnd_ok]
          exact i
        have mu : fBin mulD (fBin ixD (fVar 6) (fK (.int 0))) (fBin ixD (fDGet (fDV 3) (fVar 5)) (fVar 2)) [.im (bkN b), .im A, .im (.int (j : Nat)), .im (.dic (dkB b)), .ol s.1, .im (.str x.1), .im (fr x.2)] = .ok (.int (x.2.num * stV b x.1 j)) := by
          rw [x_fBin, show fBin ixD (fVar 6) (fK (.int 0)) [.im (bkN b), .im A, .im (.int (j : Nat)), .im (.dic (dkB b)), .ol s.1, .im (.str x.1), .im (fr x.2)] = .ok (.int x.2.num) from rfl, bnd_ok, ie, bnd_ok, x_mulD_int, mm]
          rfl
        rw [x_fTup, x_fCons, mu]
        rfl
      have su := lawsumR (k := k + 10) (A := .lst (((canon (nms b) w).map fun x => ((x.2.num * stV b x.1 j, (x.2.den : Int)) : Int × Int)).map raw)) (.inl rfl) (fun p hp => by
        obtain ⟨x, hx, rfl⟩ := List.mem_map.mp hp
        have := x.2.den_pos
        show (0 : Int) < x.2.den
        omega) (fun p hp => by
        obtain ⟨x, hx, rfl⟩ := List.mem_map.mp hp
        have sx := canon_sm hw x hx
        have sv := stV_sm h x.1 j
        exact ⟨mul_bits sx.1 (by have := sv.1; simpa using this), Nat.lt_of_lt_of_le (by simpa using sx.2) (Nat.pow_le_pow_right (by decide) (by omega))⟩) (by
          rw [List.length_map]
          have := Nat.mul_le_mul (show k + 10 + 1 ≤ 911 by omega) (show (canon (nms b) w).length ≤ 6 by omega)
          omega)
      have es : (((canon (nms b) w).map fun x => ((x.2.num * stV b x.1 j, (x.2.den : Int)) : Int × Int)).map rq) = (canon (nms b) w).map fun x => x.2 * (stV b x.1 j : Rat) := by
        rw [List.map_map]
        refine List.map_congr_left fun x _ => ?_
        show Rat.divInt (x.2.num * stV b x.1 j) x.2.den = _
        have e2 := Rat.divInt_mul_divInt x.2.num (stV b x.1 j) (d₁ := x.2.den) (d₂ := 1)
        rw [Rat.num_divInt_den, Int.mul_one] at e2
        rw [← e2]
        congr 1
        rw [Rat.divInt_eq_div]
        grind
      rw [es, wor_sum] at su
      have c := call_1 (fL_of l) rfl su
      have z : s.1.length < sizeLine := sz_lt' (by omega)
      rw [x_fApp]
      show ((fCall 1 F_u_law_sum _ _).bnd _) = _
      rw [c, bnd_ok]
      show (if decide (s.1.length < sizeLine) then R.ok (Fl.nx (R0 (.im (.int (j : Nat))) (.im (.dic (dkB b))) (.ol (s.1 ++ [fr (wor b w j)])))) else .stuck) = _
      rw [if_pos (decide_eq_true z)])
  have q2 : ∀ (xs : List Nat) (s : List D × Sl), (xs.foldl (fun (s : List D × Sl) (j : Nat) => (s.1 ++ [fr (wor b w j)], Sl.im (.int (j : Nat)))) s).1 = s.1 ++ xs.map fun j => fr (wor b w j) := fun xs => by
    induction xs with
    | nil => intro s; simp
    | cons x xs ih => intro s; rw [List.foldl_cons, ih]; simp
  rw [q2] at fo
  refine run_rt (r0 := R0 .un .un .un) rfl ?_
  refine seq_go (r' := R0 .un (.im (.dic (dkB b))) (.ol [])) ?_ ?_
  · have d := dict_bk h (R0 .un .un .un)
    simp only [List.length_cons, List.length_nil, Nat.zero_add]
    rw [if_pos (by decide)]
    unfold fParX fConsI
    rw [show fCallB dictD (fConsB (fVar 0) fNil) (R0 .un .un .un) = dictD (R0 .un .un .un) [bkN b] from rfl, d]
    rfl
  refine seq_go (for_go rg fo) ?_
  refine ret_of (d := .tup ((List.range m).map fun j => fr (wor b w j))) ?_ rfl
  rfl
end PL
end
section
namespace PL.W50
open PySem PySem.Spec PyProof.Rows L2 PL.G
section
variable {x y p : Rat} {n : Nat}
theorem F_lawdiff (hx : Sm n x) (hy : Sm n y) (hn : n ≤ 4000) : F_u_law_less [fr x, fr y] = .ok (fr (x - y)) := by
  have m1 : mulB x.num y.den = true := mulB_bits hx.1 (by simpa using hy.2) (by omega)
  have m2 : mulB y.num x.den = true := mulB_bits hy.1 (by simpa using hx.2) (by omega)
  have m3 : mulB (x.den : Int) (y.den : Int) = true := mulB_bits (n := n) (m := n) (by simpa using hx.2) (by simpa using hy.2) (by omega)
  have hd : ((x.den : Int) * (y.den : Int)) ≠ 0 := Int.mul_ne_zero (by have := x.den_nz; omega) (by have := y.den_nz; omega)
  have hb : ((x.den : Int) * (y.den : Int)).natAbs < 2 ^ (n + n) := by
    rw [Int.natAbs_mul, Nat.pow_add]
    exact Nat.mul_lt_mul'' (by simpa using hx.2) (by simpa using hy.2)
  have e := F_low_ok (u := x.num * y.den - y.num * x.den) hd hb (by omega)
  rw [sub_divInt] at e
  refine run_rt (r0 := [.im (fr x), .im (fr y)]) rfl (ret_of (call_2 (a := .int (x.num * y.den - y.num * x.den)) (b := .int ((x.den : Int) * (y.den : Int))) ?_ rfl ?_ rfl e) rfl)
  · simp [m1, m2]
  · simp [m3]
theorem soft_is (p : Rat) : Rat.divInt (p.num * p.num * (3 * (p.den : Int) - 2 * p.num)) ((p.den : Int) ^ 3) = p * p * (3 - (p + p)) := by
  have hd : (p.den : Int) ≠ 0 := den_ne p
  have e3 : ((p.den : Int) ^ 3) = (p.den : Int) * (p.den : Int) * (p.den : Int) := by rw [Int.pow_succ, Int.pow_succ, Int.pow_succ, Int.pow_zero, Int.one_mul]
  rw [e3]
  refine divInt_is (Int.mul_ne_zero (Int.mul_ne_zero hd hd) hd) ?_
  have ep := ndq p
  rw [Rat.intCast_mul, Rat.intCast_mul, Rat.intCast_sub, Rat.intCast_mul, Rat.intCast_mul, Rat.intCast_mul, Rat.intCast_mul, ep]
  generalize ((p.den : Int) : Rat) = d
  grind
theorem F_lawE (s : Bool) {g l : Rat} (hg : Sm n g) (hl : Sm n l) (g0 : 0 ≤ g) (hn : n ≤ 500) : F_u_law_eased [.str (wayS s), fr g, fr l] = .ok (fr (ease s (if g < l then g / l else 1))) := by
  have m1 : mulB g.num l.den = true := mulB_bits hg.1 (by simpa using hl.2) (by omega)
  have m2 : mulB l.num g.den = true := mulB_bits hl.1 (by simpa using hg.2) (by omega)
  have m3 : mulB (g.den : Int) l.num = true := mulB_bits (n := n) (m := n) (by simpa using hg.2) hl.1 (by omega)
  refine run_rt (r0 := [.im (.str (wayS s)), .im (fr g), .im (fr l), .un]) rfl ?_
  have t : fTest (fBin geI (fBin mulD (fBin ixD (fVar 1) (fK (.int 0))) (fBin ixD (fVar 2) (fK (.int 1)))) (fBin mulD (fBin ixD (fVar 2) (fK (.int 0))) (fBin ixD (fVar 1) (fK (.int 1))))) [.im (.str (wayS s)), .im (fr g), .im (fr l), .un] = .ok (decide (¬ g < l)) := by
    have e : decide (g.num * (l.den : Int) ≥ l.num * (g.den : Int)) = decide (¬ g < l) := by
      rw [decide_eq_decide, Rat.lt_iff]
      omega
    rw [← e]
    simp [m1, m2]
  by_cases z : g < l
  · rw [if_pos z]
    have zl : l ≠ 0 := by grind
    refine seq_go (if_skip (by rw [t, decide_eq_false (not_not_intro z)])) ?_
    have hd : ((g.den : Int) * l.num) ≠ 0 := Int.mul_ne_zero (den_ne g) (fun w => zl (Rat.num_eq_zero.mp w))
    have hb : ((g.den : Int) * l.num).natAbs < 2 ^ (n + n) := mul_bits (by simpa using hg.2) hl.1
    have e := F_low_ok (u := g.num * l.den) hd hb (by omega)
    rw [parted_is g l zl] at e
    obtain ⟨p, ep⟩ : ∃ p, p = g / l := ⟨_, rfl⟩
    have sp : Sm (n + n) p := by rw [ep]; exact div_sm hg hl zl
    rw [← ep] at e ⊢
    refine seq_go (r' := [.im (.str (wayS s)), .im (fr g), .im (fr l), .im (fr p)]) (asg_to (call_2 (a := .int (g.num * l.den)) (b := .int ((g.den : Int) * l.num)) (by simp [m1]) rfl (by simp [m3]) rfl e) rfl (by simp) rfl) ?_
    have te : fTest (fBin eqD (fVar 0) (fK (.str (Str.ofString "even")))) [.im (.str (wayS s)), .im (fr g), .im (fr l), .im (fr p)] = .ok (!s) := by
      show ((eqD _ (.str (wayS s)) (.str (Str.ofString "even"))).bnd boolOf) = _
      rw [wayS_eq]
      rfl
    cases s with
    | false => exact seq_rt (by rw [if_yes te]; rfl)
    | true =>
      refine seq_go (if_skip te) ?_
      have q1 : mulB p.num p.num = true := mulB_bits sp.1 sp.1 (by omega)
      have b2 : (p.num * p.num).natAbs < 2 ^ (n + n + (n + n)) := mul_bits sp.1 sp.1
      have q3 : mulB 3 (p.den : Int) = true := mulB_l (by decide) (by decide)
      have q4 : mulB 2 p.num = true := mulB_l (by decide) (by decide)
      have b5 : (3 * (p.den : Int) - 2 * p.num).natAbs < 2 ^ (n + n + 3) := by
        have h1 := sp.1
        have h2 := sp.2
        rw [Nat.pow_add]
        omega
      have q5 : mulB (p.num * p.num) (3 * (p.den : Int) - 2 * p.num) = true := mulB_bits b2 b5 (by omega)
      have q6 : powB (p.den : Int) 3 = true := okB_iff.mpr ⟨by decide, by decide, by
        have h2 := sp.2
        have : 2 ^ (n + n) ≤ 2 ^ 4000 := Nat.pow_le_pow_right (by decide) (by omega)
        simpa using Nat.lt_of_lt_of_le h2 this⟩
      have hd3 : ((p.den : Int) ^ 3) ≠ 0 := by
        have e3 : ((p.den : Int) ^ 3) = (p.den : Int) * (p.den : Int) * (p.den : Int) := by rw [Int.pow_succ, Int.pow_succ, Int.pow_succ, Int.pow_zero, Int.one_mul]
        rw [e3]
        exact Int.mul_ne_zero (Int.mul_ne_zero (den_ne p) (den_ne p)) (den_ne p)
      have hb3 : ((p.den : Int) ^ 3).natAbs < 2 ^ (n + n + (n + n) + (n + n)) := by
        have e3 : ((p.den : Int) ^ 3) = (p.den : Int) * (p.den : Int) * (p.den : Int) := by rw [Int.pow_succ, Int.pow_succ, Int.pow_succ, Int.pow_zero, Int.one_mul]
        rw [e3]
        exact mul_bits (mul_bits (by simpa using sp.2) (by simpa using sp.2)) (by simpa using sp.2)
      have e2 := F_low_ok (u := p.num * p.num * (3 * (p.den : Int) - 2 * p.num)) hd3 hb3 (by omega)
      rw [soft_is] at e2
      refine ret_of (call_2 (a := .int (p.num * p.num * (3 * (p.den : Int) - 2 * p.num))) (b := .int ((p.den : Int) ^ 3)) (by simp [q1, q3, q4, q5]) rfl ?_ rfl e2) rfl
      show (if powB (p.den : Int) 3 then R.ok (D.int ((p.den : Int) ^ 3)) else .stuck) = _
      rw [q6]
      rfl
  · rw [if_neg z]
    refine seq_rt ?_
    rw [if_yes (by rw [t, decide_eq_true z])]
    have e1 : ease s 1 = 1 := by cases s <;> decide +kernel
    rw [e1]
    rfl
end
section
variable {j : Nat} {b : Bk} {n : Str} {T : Rat}
theorem alone (hb : Bok j b) {x : Str} (hx : x ∈ nms b) : D.lst [.tup [.str x, fr 1]] = shW b (ind x) := by
  unfold shW
  rw [canon_ind hb.nodup hx]
  rfl
theorem tq_sub {u v : Rat} (hu : TQ 18 300 u) (hv : TQ 18 300 v) (h : v ≤ u) : Sm 13 (u - v) := by
  obtain ⟨A, ea⟩ := hu.gr
  obtain ⟨C, ec⟩ := hv.gr
  have a0 := grid_le hu.pos hu.le ea
  have c0 := grid_le hv.pos hv.le ec
  refine sm_grid (c := 18) (a := A - C) (by decide) (by decide) ?_ ?_
  · show (A - C).natAbs < 8192
    have a1 : 0 ≤ A ∧ A ≤ 5400 := a0
    have c1 : 0 ≤ C ∧ C ≤ 5400 := c0
    omega
  · rw [Rat.intCast_sub, ← ea, ← ec]
    grind
theorem at_ok {m : Mv} {k : Nat} {U : Rat} (h : MvOk (nms b) 18 300 k m) (hU : TQ 18 300 U) (le : m.begun ≤ U) : MvOk (nms b) 18 300 k { m with now := U } := ⟨h.he, hU, h.tb, h.tl, le, h.w⟩
theorem led_at (hb : Bok j b) {m : Mv} {k : Nat} {U : Rat} (h : MvOk (nms b) 18 300 k m) (hk : k ≤ 500) (hU : TQ 18 300 U) (le : m.begun ≤ U) :
    F_u_law_led [shW b m.w, .lst [.tup [.str m.e, fr 1]], fr (ease m.soft (if U - m.begun < m.long then (U - m.begun) / m.long else 1))] = .ok (shW b ({ m with now := U } : Mv).cur) := by
  have h2 := at_ok h hU le
  have pd := part_den (n := 13) h2 (by decide) (by decide) (by decide)
  have ed := ease_den m.soft pd (by decide)
  have h6 := hb.nlen
  exact F_lawled (k := k + 1) (k2 := 39) hb.up (fun x hx => nm_ok (hb.nmOk hx)) (by omega) (fun x hx => ((h.w.wt hb.nodup).sm x hx).mono (by omega)) (fun x hx => ((wt_ind hb.nodup h.he).sm x hx).mono (by omega)) ed.sm (A := shW b m.w) (.inl rfl) (B := .lst [.tup [.str m.e, fr 1]]) (.inl (by rw [canon_ind hb.nodup h.he]; rfl)) (by
    have := Nat.mul_le_mul (show k + 1 + 39 + 3 ≤ 543 by omega) (show (nms b).length + (nms b).length ≤ 12 by omega)
    omega) (by omega)
end
section
variable {j : Nat} {b : Bk} {n : Str} {T : Rat} {ns : List Int}
theorem add_k {r : Rho} {i : Nat} {a k : Int} (h : fVar i r = .ok (.int a)) : fBin addD (fVar i) (fK (.int k)) r = .ok (.int (a + k)) := by
  rw [x_fBin, h]
  rfl
theorem pick_name (hb : Bok j b) {r : Rho} {fv fp : Rho → R D} {f0 : Rho → R D} {k : Int} (hv : fv r = .ok (bkD b)) (h0 : f0 r = .ok (.scr ns)) (hp : fp r = .ok (.int k)) (hk : 0 ≤ k) : ∃ y ∈ nms b, fBin ixD (fBin ixD fv (fCall 3 F_u_law_pick (fCons f0 (fCons fp (fCons (fCallB lenD (fConsB fv fNil)) fNil))))) (fK (.int 0)) r = .ok (.str y) := by
  have l1 := hb.l1
  obtain ⟨q, hq, eq⟩ := pickN ns k b.length hk (by omega)
  have ln : fCallB lenD (fConsB fv fNil) r = .ok (.int (b.length : Int)) := by
    have z := len_of (r := r) (A := bkD b) (xs := b.map pD) hv (.inr rfl)
    rw [List.length_map] at z
    exact z
  refine ⟨(b[q]).1, List.mem_map.mpr ⟨b[q], List.getElem_mem hq, rfl⟩, ?_⟩
  rw [x_fBin, x_fBin, hv, bnd_ok, call_3 (a := .scr ns) (b := .int k) (c := .int (b.length : Int)) h0 rfl hp rfl ln rfl eq, bnd_ok]
  have e : ixD r (bkD b) (.int (q : Int)) = .ok (pD b[q]) := ix_tup (by rw [List.getElem?_map, List.getElem?_eq_getElem hq]; rfl)
  rw [e]
  rfl
theorem F_lawcall (hb : Bok j b) (k : Int) (hk : 0 ≤ k) : ∃ g l s, F_u_law_call [.scr ns, .int k, bkD b] = .ok (.tup [.str g, fr l, .str (wayS s)]) ∧ g ∈ nms b ∧ TQ 6 39 l := by
  obtain ⟨g, hg, eg⟩ := pick_name (ns := ns) (k := k) hb (r := [.im (.scr ns), .im (.int k), .im (bkD b), .un, .un, .un, .un]) (fv := fVar 2) (fp := fVar 1) (f0 := fVar 0) rfl rfl rfl hk
  obtain ⟨q4, hq4, e4⟩ := pickN ns (k + 4) 2 (by omega) (by decide)
  obtain ⟨s, es⟩ := way_ix [.im (.scr ns), .im (.int k), .im (bkD b), .un, .un, .un, .un] q4 hq4
  obtain ⟨q2, hq2, e2⟩ := pickN ns (k + 2) 4 (by omega) (by decide)
  have ht : ∃ m : Nat, (∀ r : Rho, ixD r (.lst [.int 1, .int 12, .int 40, .int 40]) (.int (q2 : Int)) = .ok (.int (m : Int))) ∧ 0 < m ∧ m ≤ 40 := by
    match q2, hq2 with
    | 0, _ => exact ⟨1, fun _ => rfl, by decide, by decide⟩
    | 1, _ => exact ⟨12, fun _ => rfl, by decide, by decide⟩
    | 2, _ => exact ⟨40, fun _ => rfl, by decide, by decide⟩
    | 3, _ => exact ⟨40, fun _ => rfl, by decide, by decide⟩
  obtain ⟨m, em, m0, m40⟩ := ht
  obtain ⟨u, hu, eu⟩ := pickN ns (k + 1) m (by omega) m0
  obtain ⟨q3, hq3, e3⟩ := pickN ns (k + 3) 3 (by omega) (by decide)
  have el := F_low_ok (u := (u : Int)) (d := 1 + (q3 : Int)) (n := 4) (by omega) (by omega) (by decide)
  refine ⟨g, Rat.divInt u (1 + (q3 : Int)), s, ?_, hg, ?_⟩
  · refine run_rt (r0 := [.im (.scr ns), .im (.int k), .im (bkD b), .un, .un, .un, .un]) rfl ?_
    refine seq_go (r' := [.im (.scr ns), .im (.int k), .im (bkD b), .un, .un, .im (.str g), .im (.str (wayS s))]) ?_ ?_
    · rw [x_fPar, x_fCons, eg, bnd_ok, x_imD_str, bnd_ok, x_fCons, x_fBin, show fL (fLst (fCons (fK (.str (Str.ofString "even"))) (fCons (fK (.str (Str.ofString "soft"))) fNil))) [.im (.scr ns), .im (.int k), .im (bkD b), .un, .un, .un, .un] = R.ok (.lst [.str (Str.ofString "even"), .str (Str.ofString "soft")]) from rfl, bnd_ok, call_3 (a := .scr ns) (b := .int (k + 4)) (c := .int 2) rfl rfl (add_k rfl) rfl rfl rfl e4, bnd_ok, es]
      rfl
    refine seq_go (r' := [.im (.scr ns), .im (.int k), .im (bkD b), .im (.int (m : Int)), .un, .im (.str g), .im (.str (wayS s))]) (asg_to (d := .int (m : Int)) ?_ rfl (by simp) rfl) ?_
    · rw [x_fBin, show fL (fLst (fCons (fK (.int 1)) (fCons (fK (.int 12)) (fCons (fK (.int 40)) (fCons (fK (.int 40)) fNil))))) [.im (.scr ns), .im (.int k), .im (bkD b), .un, .un, .im (.str g), .im (.str (wayS s))] = R.ok (.lst [.int 1, .int 12, .int 40, .int 40]) from rfl, bnd_ok, call_3 (a := .scr ns) (b := .int (k + 2)) (c := .int 4) rfl rfl (add_k rfl) rfl rfl rfl e2, bnd_ok]
      exact em _
    refine seq_go (r' := [.im (.scr ns), .im (.int k), .im (bkD b), .im (.int (m : Int)), .im (fr (Rat.divInt u (1 + (q3 : Int)))), .im (.str g), .im (.str (wayS s))]) (asg_to (d := fr (Rat.divInt u (1 + (q3 : Int)))) (call_2 (a := .int (u : Int)) (b := .int (1 + (q3 : Int))) (call_3 (a := .scr ns) (b := .int (k + 1)) (c := .int (m : Int)) rfl rfl (add_k rfl) rfl rfl rfl eu) rfl ?_ rfl el) rfl (by simp) rfl) ?_
    · rw [x_fBin]
      show ((fCall 3 F_u_law_pick _ _).bnd _) = _
      rw [call_3 (a := .scr ns) (b := .int (k + 3)) (c := .int 3) rfl rfl (add_k rfl) rfl rfl rfl e3]
      rfl
    rfl
  · have : q3 = 0 ∨ q3 = 1 ∨ q3 = 2 := by omega
    rcases this with rfl | rfl | rfl
    · exact tq_div 6 39 (by omega) 6 rfl (by decide)
    · exact tq_div 6 39 (by omega) 3 rfl (by decide)
    · exact tq_div 6 39 (by omega) 2 rfl (by decide)
end
end PL.W50
end
section
namespace PL
open PySem PySem.Spec PyProof.Rows L2
structure FnT (P : Program) (w : World) (K : PySem.W.Frag) (mg : Str → Option Value) (base : Heap) (CX : CXT) (k : Nat) (f : Addr) (fd : FuncData) (ps : List Str) (sp : Sp) : Prop where
  len : ∀ vs H Q E, sp vs H Q E → vs.length = ps.length
  run : ∀ (A : Around) (outer : List Env) (s : Shared) (H : Hp) (args : Args) (us : List Value) (vs : List V) (Q : VK) (E : XK), L2H.RoomH k A → Env0 P w K mg base A outer s H → BindsTo s fd args (ps.zip us) → Vals vs us → sp vs H Q E →
    codeAny (model P w) A (.call (.ref f) args) (CR CX outer P w H s Q E) s
section
variable {X : Cx} {CX : CXT} {k : Nat} {f : Addr} {fd : FuncData} {ps : List Str} {sp : Sp} {E : St → XK} {x : Str} {q pos : Pos} {e : Expr} {es : List Expr} {t : TA}
end
structure HrT (A : Around) : Prop where
  units : A.units + 64 < cLine
structure CxtT (X : Cx) : Prop where
  hr : HrT X.A
  nd : X.N.Nodup
structure FnW (P : Program) (w : World) (K : PySem.W.Frag) (mg : Str → Option Value) (base : Heap) (k : Nat) (x : Str) (n : Nat) (F : List D → R D) : Prop where
  ex : ∃ f fd ps, mg x = some (.ref f) ∧ PySem.W.keepIn K (.ref f) = true ∧ Binds K fd ps [] ∧ FnT P w K mg base (L2.CX P w) k f fd ps (spF K mg n F)
section
variable {X : Cx} {x n : Str} {c : Value} {i : Nat} {body : List Stmt} {st : Stmt} {np pos pos' : Pos} {tb : WX → TS} {ts : TS}
end
end PL
end
section
namespace PL
open PySem PySem.Spec PyProof.Rows L2 LamX
section
variable {X : Cx} {pins : List (Addr × Obj)} {σ : L2.St} {H : Hp} {s : Shared}
end
structure Teller (K : PySem.W.Frag) (x a ex n wd : Str) (sg : Scope) (bg : List Stmt) : Prop where
  body : ∃ p1 p2 p3 p4 p5 p6 p7 p8 p9 p10, bg = [.Try [.Return (some (.Call (.Name a p1) [] [] p2)) p3] [.ExceptHandler (some (.Name ex p4)) (some n) [.Return (some (.Call (.Name wd p5) [.Name n p6] [] p7)) p8] p9] [] [] p10]
  S : FnScope [a, n] [a] sg
  va : Vis sg a
  ln : sg.names.lookup n = some .local
  ge : sg.names.lookup ex = some .globalImplicit
  gw : sg.names.lookup wd = some .globalImplicit
  da : (a == ("__debug__" : Str)) = false
  ca : (a == ("__classdict__" : Str)) = false
  dn : (n == ("__debug__" : Str)) = false
  cn : (n == ("__classdict__" : Str)) = false
  de : (ex == ("__debug__" : Str)) = false
  dw : (wd == ("__debug__" : Str)) = false
section
variable {X : Cx}
end
end PL
end
section
namespace PL
open PySem PySem.Spec PyProof.Rows L2 LamX
section
variable {K : PySem.W.Frag} {mg : Str → Option Value} {E : WX}
end
structure TellF (P : Program) (w : World) (K : PySem.W.Frag) (mg : Str → Option Value) (base : Heap) (k : Nat) (x ex wd : Str) (W : List D → R D) : Prop where
  ex : ∃ (g : Addr) (pg : Arguments) (bg : List Stmt) (sg : Scope) (dV kV doc pm cdv ct oc : Value) (an od : Option Addr) (osl : Array (Option Value)) (a n : Str), mg x = some (.ref g) ∧ PySem.W.keepIn K (.ref g) = true ∧
    K.lookup g = some ⟨oc, od, .func (PySem.W.fnOf x x pg bg sg dV kV doc pm an cdv ct), osl⟩ ∧ PySem.W.codeIn K cdv x = true ∧ L2.Binds K (PySem.W.fnOf x x pg bg sg dV kV doc pm an cdv ct) [a] [] ∧ Teller K x a ex n wd sg bg
  word : FnW P w K mg base k wd 1 W
end PL
end
section
namespace PL
open PySem PySem.Spec PyProof.Rows L2 LamX
section
variable {P : Program} {w : World} {K : PySem.W.Frag} {mg : Str → Option Value} {base : Heap}
end
end PL
end
section
namespace PL
open PySem PySem.Spec PyProof.Rows L2 LamX
section
variable {X : Cx} {E : WX} {a b e : Expr} {rest : List Expr} {fa fb : Rho → R (D × Rho)} {pos : Pos}
end
end PL
end
section
namespace PL
open PySem PySem.Spec PyProof.Rows L2 PL.G
theorem runF_err {s1 : Rho → R Fl} {n : Nat} {ds : List D} {r0 : Rho} {c : Str} (h0 : ds.map .im ++ List.replicate (n - ds.length) .un = r0) (h : s1 r0 = .err c) : runF s1 n ds = .err c := by
  rw [x_runF, h0, h]
theorem expr_err {f : Rho → R D} {r : Rho} {c : Str} (h : f r = .err c) : fExpr f r = .err c := by
  rw [x_fExpr, h] <;> rfl
section
variable {F : List D → R D} {fa fb fc : Rho → R D} {r : Rho} {a b d : D} {e : Str}
theorem call_1e (h1 : fa r = .ok a) (i1 : imD a = .ok a) (h : F [a] = .err e) : fCall 1 F (fCons fa fNil) r = .err e := by
  rw [x_fCall, x_fCons, h1, bnd_ok, i1]; exact h
theorem call_2e (h1 : fa r = .ok a) (i1 : imD a = .ok a) (h2 : fb r = .ok b) (i2 : imD b = .ok b) (h : F [a, b] = .err e) : fCall 2 F (fCons fa (fCons fb fNil)) r = .err e := by
  rw [x_fCall, x_fCons, h1, bnd_ok, i1, bnd_ok, x_fCons, h2, bnd_ok, i2]; exact h
end
theorem lookbook_no {X : D} (hi : imD X = .ok X) (h : F_is_book [X] = .ok (.bl false)) : F_look_book [X] = .err (Str.ofString "NoBook") := by
  refine runF_err (r0 := [.im X]) rfl ?_
  unfold B_look_book
  rw [if_yes (by rw [x_fNot, x_fTest, call_1 (a := X) rfl hi h]; rfl)]
section
variable {X Y Z : D} {c : Str} (hx : imD X = .ok X) (hy : imD Y = .ok Y)
end
section
variable {m : Nat} {b : Bk} (h : Bok m b)
end
end PL
end
section
namespace PL
open PySem PySem.Spec PyProof.Rows L2 PL.G
theorem rep_lst (r : Rho) (d : D) (m : Nat) (h2 : m ≤ 1000) : mulD r (.lst [d]) (.int m) = .ok (.lst (List.replicate m d)) := by
  have e : repB 1 (m : Int) = true := okB_iff.mpr ⟨by omega, by omega, by rw [Nat.one_mul]; exact sz_le (by omega)⟩
  have e2 : (List.replicate ((m : Int)).toNat [d]).flatten = List.replicate m d := by
    simp only [Int.toNat_natCast]
    clear e h2
    induction m with
    | zero => rfl
    | succ m ih => rw [List.replicate_succ, List.flatten_cons, ih, List.replicate_succ]; rfl
  show (match viewL r (.lst [d]) with
    | some ds => if repB ds.length (m : Int) then R.ok (D.lst (List.replicate ((m : Int)).toNat ds).flatten) else R.stuck
    | none => R.stuck) = _
  simp only [viewL, List.length_singleton, e, if_true, e2]
end PL
end
section
namespace PL.W50
open PySem PySem.Spec PyProof.Rows L2 PL.G
theorem w_stand : F_u_law_word [.exc (Str.ofString "NoStand")] = .ok (.str (Str.ofString "no stand")) := by kernel_rfl
theorem w_numb : F_u_law_word [.exc (Str.ofString "NoNumber")] = .ok (.str (Str.ofString "no number")) := by kernel_rfl
theorem w_way : F_u_law_word [.exc (Str.ofString "NoWay")] = .ok (.str (Str.ofString "no way")) := by kernel_rfl
theorem w_book : F_u_law_word [.exc (Str.ofString "NoBook")] = .ok (.str (Str.ofString "no book")) := by kernel_rfl
theorem pD_inj : ∀ {b c : Bk}, b.map pD = c.map pD → b = c
  | [], [], _ => rfl
  | [], _ :: _, h => by cases h
  | _ :: _, [], h => by cases h
  | p :: b, q :: c, h => by
    rw [List.map_cons, List.map_cons] at h
    injection h with h1 h2
    have e := pD_inj h2
    obtain ⟨x, y⟩ := p
    obtain ⟨u, v⟩ := q
    unfold pD at h1
    injection h1 with h1
    injection h1 with h1 h3
    injection h1 with h1
    injection h3 with h3 _
    injection h3 with h3
    have : y = v := by
      have inj : ∀ {a b : List Int}, a.map D.int = b.map D.int → a = b := by
        intro a
        induction a with
        | nil => intro b h; cases b with
          | nil => rfl
          | cons _ _ => cases h
        | cons i a ih => intro b h; cases b with
          | nil => cases h
          | cons k b =>
            rw [List.map_cons, List.map_cons] at h
            injection h with h1 h2
            injection h1 with h1
            rw [h1, ih h2]
      exact inj h3
    have hx : x = u := h1
    rw [hx, this, e]
theorem bookN0 (ns : List Int) : ∃ m b, Bok m b ∧ (∀ p ∈ b, Nm0 p.1) ∧ F_u_law_book [.scr ns, .int 10] = .ok (bkN b) := by
  obtain ⟨m, b, h, q⟩ := book_pre ns 10 (by decide)
  obtain ⟨m2, b2, _, h2, e2⟩ := law_bookN ns 10 (by decide)
  have e1 : PL.G.F_u_law_book [.scr ns, .int 10] = .ok (bkD b) := by
    obtain ⟨y2, y3, y4, y6, y7, y8, y9, q⟩ := q (fRet (fCallB tupleD (fConsB (fVar 5) fNil)))
    refine run_rt (s1 := bkPre (fRet (fCallB tupleD (fConsB (fVar 5) fNil)))) (n := 11) (r0 := [.im (.scr ns), .im (.int 10), .un, .un, .un, .un, .un, .un, .un, .un, .un]) rfl ?_
    rw [q]
    rfl
  have e : bkD b2 = bkD b := by
    have := e2.symm.trans e1
    injection this
  have eb : b2 = b := by
    unfold bkD at e
    injection e with e
    exact pD_inj e
  subst eb
  refine ⟨m, b2, h, h2, ?_⟩
  obtain ⟨y2, y3, y4, y6, y7, y8, y9, q⟩ := q (fRet (fCallB tupleN (fConsB (fVar 5) fNil)))
  refine run_rt (s1 := bkPre (fRet (fCallB tupleN (fConsB (fVar 5) fNil)))) (n := 11) (r0 := [.im (.scr ns), .im (.int 10), .un, .un, .un, .un, .un, .un, .un, .un, .un]) rfl ?_
  rw [q]
  rfl
noncomputable abbrev doB : Rho → R Fl := (fIfS (fTest (fBin eqD (fVar 0) (fK (.int 0)))) (fAsgM 6 (fMethM (Str.ofString "Mover") (Str.ofString "call") 4 F_Mover_o_call (fVar 1) (fConsA (fVar 2) (fConsA (fVar 3) (fConsA (fVar 4) fNil))))) (fAsgM 6 (fIfM (fTest (fBin eqD (fVar 0) (fK (.int 1)))) (fMethM (Str.ofString "Mover") (Str.ofString "go_on") 2 F_Mover_o_go_on (fVar 1) (fConsA (fVar 3) fNil)) (fMR0 (Str.ofString "Mover") (Str.ofString "goal") 1 F_Mover_o_goal (fMake (Str.ofString "Mover") 3 F_Mover_o_u__init_u_ (fConsA (fVar 1) (fConsA (fVar 2) fNil)))))))
noncomputable abbrev doR : Rho → R Fl := (fIfS (fTest (fBin eqD (fVar 0) (fK (.int 0)))) (fAsg (.nm 6) (fErrE (fMethM (Str.ofString "Mover") (Str.ofString "call") 4 F_Mover_o_call (fVar 1) (fConsA (fVar 2) (fConsA (fVar 3) (fConsA (fVar 4) fNil)))))) (fAsg (.nm 6) (fErrE (fIfM (fTest (fBin eqD (fVar 0) (fK (.int 1)))) (fMethM (Str.ofString "Mover") (Str.ofString "go_on") 2 F_Mover_o_go_on (fVar 1) (fConsA (fVar 3) fNil)) (fMR0 (Str.ofString "Mover") (Str.ofString "goal") 1 F_Mover_o_goal (fMake (Str.ofString "Mover") 3 F_Mover_o_u__init_u_ (fConsA (fVar 1) (fConsA (fVar 2) fNil))))))))
abbrev rM (A X Y Z W : D) (w : Bool) (os : List Ob) : Rho := [.im A, .im X, .im Y, .im Z, .im W, .im .non, .im .non, .un, .st w os]
theorem seq_rm {s1 s2 : Rho → R Fl} {r : Rho} {d : D} {os : List Ob} (h : s1 r = .ok (.rm d os)) : fSeq s1 s2 r = .ok (.rm d os) := by
  rw [x_fSeq, h]; rfl
theorem do_m {A X Y Z W d : D} {os os' : List Ob} (hb : doB (rM A X Y Z W true os) = .ok (.nx [.im A, .im X, .im Y, .im Z, .im W, .im .non, .im d, .un, .st true os'])) (hd : obD d = .ok d) : F_u_law_do os [A, X, Y, Z, W] = .ok (d, os') := by
  refine runM_rm (r0 := [.im A, .im X, .im Y, .im Z, .im W, .un, .un, .un, .st false os]) rfl ?_
  refine seqM_go (r' := [.im A, .im X, .im Y, .im Z, .im W, .im .non, .un, .un, .st false os]) (by rfl) rfl (Nat.le_refl _) ?_
  refine seqM_go (r' := rM A X Y Z W false os) (by rfl) rfl (Nat.le_refl _) ?_
  refine sw_rm rfl ?_
  refine seq_go (r' := [.im A, .im X, .im Y, .im Z, .im W, .im .non, .im d, .un, .st true os']) ?_ ?_
  · show fTry 7 5 ecs doB (rM A X Y Z W true os) = _
    unfold fTry
    rw [hb]
  · refine seq_rm ?_
    show fIfS (fTest (fBin isD (fVar 5) (fK .non))) (fRetM (fVar 6)) fNx _ = _
    rw [x_fIfS, show fTest (fBin isD (fVar 5) (fK .non)) [.im A, .im X, .im Y, .im Z, .im W, .im .non, .im d, .un, .st true os'] = .ok true from rfl, bnd_ok, if_pos rfl]
    unfold fRetM
    rw [show fVar 6 [.im A, .im X, .im Y, .im Z, .im W, .im .non, .im d, .un, .st true os'] = .ok d from rfl, bnd_ok, hd]
    rfl
theorem do_r {A X Y Z W : D} {os : List Ob} {c w : Str} (hb : doR (rM A X Y Z W false os) = .err c) (hc : ecs.contains c = true) (hw : F_u_law_word [.exc c] = .ok (.str w)) : F_u_law_do_r os [A, X, Y, Z, W] = .ok (.str w) := by
  refine runR_rt (r0 := [.im A, .im X, .im Y, .im Z, .im W, .un, .un, .un, .st false os]) rfl ?_
  refine seq_go (r' := [.im A, .im X, .im Y, .im Z, .im W, .im .non, .un, .un, .st false os]) (by rfl) ?_
  refine seq_go (r' := rM A X Y Z W false os) (by rfl) ?_
  refine seq_go (r' := [.im A, .im X, .im Y, .im Z, .im W, .im (.exc c), .im .non, .un, .st false os]) ?_ ?_
  · show fTry 7 5 ecs doR _ = _
    unfold fTry
    rw [hb]
    simp only [hc, Bool.true_and]
    rfl
  · refine seq_go (if_skip (by rfl)) ?_
    exact ret_of (call_1 (a := .exc c) rfl rfl hw) rfl
section
variable {X Y Z W : D} {os : List Ob}
noncomputable abbrev mCall : Rho → R (D × List Ob) := fMethM (Str.ofString "Mover") (Str.ofString "call") 4 F_Mover_o_call (fVar 1) (fConsA (fVar 2) (fConsA (fVar 3) (fConsA (fVar 4) fNil)))
noncomputable abbrev mGo : Rho → R (D × List Ob) := fMethM (Str.ofString "Mover") (Str.ofString "go_on") 2 F_Mover_o_go_on (fVar 1) (fConsA (fVar 3) fNil)
noncomputable abbrev mMake : Rho → R (D × List Ob) := fMR0 (Str.ofString "Mover") (Str.ofString "goal") 1 F_Mover_o_goal (fMake (Str.ofString "Mover") 3 F_Mover_o_u__init_u_ (fConsA (fVar 1) (fConsA (fVar 2) fNil)))
theorem doB0 : doB (rM (.int 0) X Y Z W true os) = fAsgM 6 mCall (rM (.int 0) X Y Z W true os) := by kernel_rfl
theorem doB1 : doB (rM (.int 1) X Y Z W true os) = fAsgM 6 mGo (rM (.int 1) X Y Z W true os) := by kernel_rfl
theorem doR0 : doR (rM (.int 0) X Y Z W false os) = fAsg (.nm 6) (fErrE mCall) (rM (.int 0) X Y Z W false os) := by kernel_rfl
theorem doR1 : doR (rM (.int 1) X Y Z W false os) = fAsg (.nm 6) (fErrE mGo) (rM (.int 1) X Y Z W false os) := by kernel_rfl
theorem doR2 : doR (rM (.int 2) X Y Z W false os) = fAsg (.nm 6) (fErrE mMake) (rM (.int 2) X Y Z W false os) := by kernel_rfl
end
theorem asg_ee {i : Nat} {f : Rho → R (D × List Ob)} {r : Rho} {c : Str} (hs : hasSt r = true) (h : f r = .err c) : fAsg (.nm i) (fErrE f) r = .err c := by
  have e : fErrE f r = .err c := by
    unfold fErrE
    rw [hs, if_pos rfl, h]
  show ((fErrE f r).bnd _) = _
  rw [e]; rfl
theorem asgM_v {i : Nat} {f : Rho → R (D × List Ob)} {r : Rho} {d : D} {os : List Ob} (hw : (wSt r && decide (i + 1 < r.length)) = true) (h : f r = .ok (d, os)) : fAsgM i f r = .ok (.nx ((setSt r os).set i (.im d))) := by
  unfold fAsgM
  rw [hw, if_pos rfl, h]; rfl
theorem mk_e {fs : Rho → R (List D)} {c m x : Str} {n k : Nat} {F : List Ob → List D → R (D × List Ob)} {F2 : List Ob → List D → R D} {r : Rho} {ds : List D} (h1 : fs r = .ok ds) (h2 : ds.length + 1 = n) (h : F (stOf r ++ [.ins c []]) (.obj (stOf r).length :: ds) = .err x) : fMR0 c m k F2 (fMake c n F fs) r = .err x := by
  have e : fMake c n F fs r = .err x := by
    unfold fMake
    rw [h1, bnd_ok, if_pos (by simp [h2]), h]
    rfl
  unfold fMR0
  rw [e]; rfl
theorem obd_im {d : D} (h : imD d = .ok d) : obD d = .ok d := by cases d <;> first | rfl | cases h
section
variable {j : Nat} {b : Bk} {m : Mv} {os os' : List Ob} {i : Nat} {X L W Z : D}
theorem look_no (hB : Bok j b) {w n : Nat} (hX : Lv w n X) (hn : hasD b X = false) : F_look_name [bkD b, X] = .err (Str.ofString "NoStand") := by
  have h := F_hasD hB hX
  rw [hn] at h
  refine runF_err (r0 := [.im (bkD b), .im X]) rfl ?_
  unfold B_look_name
  rw [if_yes (by rw [x_fNot, x_fTest, call_2 (a := bkD b) (b := X) rfl rfl rfl hX.im h]; rfl)]
theorem call_nost (hk : os[i]? = some (mvO b m)) (iX : imD X = .ok X) (ln : F_look_name [bkD b, X] = .err (Str.ofString "NoStand")) : F_Mover_o_call os [.obj i, X, L, W] = .err (Str.ofString "NoStand") :=
  runM_err (r0 := [.im (.obj i), .im X, .im L, .im W, .st false os]) rfl (seqM_err (expr_err (call_2e (a := bkD b) (b := X) (fFld_ok rfl hk lk_known) rfl rfl iX ln)))
theorem if_err {g : Rho → R Bool} {r : Rho} {c : Str} {s : Rho → R Fl} (h : g r = .ok true) : fIfS g (fun _ => .err c) s r = .err c := by rw [x_fIfS, h]; rfl
theorem call_not (hB : Bok j b) (hk : os[i]? = some (mvO b m)) {x : Str} (hx : x ∈ nms b) (iL : imD L = .ok L) (e : F_is_time [L] = .ok (.bl false)) : F_Mover_o_call os [.obj i, .str x, L, W] = .err (Str.ofString "NoNumber") := by
  refine runM_err (r0 := [.im (.obj i), .im (.str x), .im L, .im W, .st false os]) rfl ?_
  refine seqM_go (r' := [.im (.obj i), .im (.str x), .im L, .im W, .st false os]) (by rw [x_fExpr, call_2 (a := bkD b) (b := .str x) (fFld_ok rfl hk lk_known) rfl rfl rfl (F_lookname hB hx)]; rfl) rfl (Nat.le_refl _) ?_
  exact seqM_err (if_err (by rw [x_fNot, x_fTest, call_1 (a := L) rfl iL e]; rfl))
theorem call_now (hB : Bok j b) (hk : os[i]? = some (mvO b m)) {x : Str} (hx : x ∈ nms b) (iL : imD L = .ok L) (e : F_is_time [L] = .ok (.bl true)) (iW : imD W = .ok W) (ew : F_is_way [W] = .ok (.bl false)) : F_Mover_o_call os [.obj i, .str x, L, W] = .err (Str.ofString "NoWay") := by
  refine runM_err (r0 := [.im (.obj i), .im (.str x), .im L, .im W, .st false os]) rfl ?_
  refine seqM_go (r' := [.im (.obj i), .im (.str x), .im L, .im W, .st false os]) (by rw [x_fExpr, call_2 (a := bkD b) (b := .str x) (fFld_ok rfl hk lk_known) rfl rfl rfl (F_lookname hB hx)]; rfl) rfl (Nat.le_refl _) ?_
  refine seqM_go (r' := [.im (.obj i), .im (.str x), .im L, .im W, .st false os]) (if_skip (by rw [x_fNot, x_fTest, call_1 (a := L) rfl iL e]; rfl)) rfl (Nat.le_refl _) ?_
  exact seqM_err (if_err (by rw [x_fNot, x_fTest, call_1 (a := W) rfl iW ew]; rfl))
theorem go_not (iL : imD L = .ok L) (e : F_is_time [L] = .ok (.bl false)) : F_Mover_o_go_on os [.obj i, L] = .err (Str.ofString "NoNumber") :=
  runM_err (r0 := [.im (.obj i), .im L, .st false os]) rfl (seqM_err (if_err (by rw [x_fNot, x_fTest, call_1 (a := L) rfl iL e]; rfl)))
theorem r_call {c w : Str} (hk : os[i]? = some (mvO b m)) (iX : imD X = .ok X) (iL : imD L = .ok L) (iW : imD W = .ok W) (h : F_Mover_o_call os [.obj i, X, L, W] = .err c) (hc : ecs.contains c = true) (hw : F_u_law_word [.exc c] = .ok (.str w)) : F_u_law_do_r os [.int 0, .obj i, X, L, W] = .ok (.str w) :=
  do_r (doR0.trans (asg_ee rfl (fMethM_ok (k := i) (fl := mvF b m) (ds := [X, L, W]) rfl hk (lk_m (by decide +kernel)) (consA_ok rfl (obd_im iX) (consA_ok rfl (obd_im iL) (consA_ok rfl (obd_im iW) rfl))) rfl h))) hc hw
theorem r_go (hk : os[i]? = some (mvO b m)) (iL : imD L = .ok L) (e : F_is_time [L] = .ok (.bl false)) : F_u_law_do_r os [.int 1, .obj i, .non, L, .non] = .ok (.str (Str.ofString "no number")) :=
  do_r (doR1.trans (asg_ee rfl (fMethM_ok (k := i) (fl := mvF b m) (ds := [L]) rfl hk (lk_m (by decide +kernel)) (consA_ok rfl (obd_im iL) rfl) rfl (go_not iL e)))) (by decide +kernel) w_numb
theorem r_nobook (iX : imD X = .ok X) : F_u_law_do_r os [.int 2, .non, X, .non, .non] = .ok (.str (Str.ofString "no book")) := by
  have nb : F_look_book [.non] = .err (Str.ofString "NoBook") := lookbook_no rfl (by kernel_rfl)
  exact do_r (doR2.trans (asg_ee rfl (mk_e (ds := [.non, X]) (consA_ok rfl rfl (consA_ok rfl (obd_im iX) rfl)) rfl (runM_err rfl (seqM_err (expr_err (call_1e (a := .non) rfl rfl nb))))))) (by decide +kernel) w_book
theorem r_nostand (hB : Bok j b) (iX : imD X = .ok X) (ln : F_look_name [bkD b, X] = .err (Str.ofString "NoStand")) : F_u_law_do_r os [.int 2, bkD b, X, .non, .non] = .ok (.str (Str.ofString "no stand")) := by
  have f6 : ∀ os i, F_Mover_o_u__init_u_ os [.obj i, bkD b, X] = .err (Str.ofString "NoStand") := fun os i => by
    refine runM_err (r0 := [.im (.obj i), .im (bkD b), .im X, .st false os]) rfl ?_
    refine seqM_go (r' := [.im (.obj i), .im (bkD b), .im X, .st false os]) (by rw [x_fExpr, call_1 rfl rfl (F_lookbook hB)]; rfl) rfl (Nat.le_refl _) ?_
    exact seqM_err (expr_err (call_2e (a := bkD b) (b := X) rfl rfl rfl iX ln))
  exact do_r (doR2.trans (asg_ee rfl (mk_e (ds := [bkD b, X]) (consA_ok rfl rfl (consA_ok rfl (obd_im iX) rfl)) rfl (f6 _ _)))) (by decide +kernel) w_stand
theorem m_call {g : Str} {l : Rat} {s : Bool} (hk : os[i]? = some (mvO b m)) (h : F_Mover_o_call os [.obj i, .str g, fr l, .str (wayS s)] = .ok (.non, os')) : F_u_law_do os [.int 0, .obj i, .str g, fr l, .str (wayS s)] = .ok (.non, os') :=
  do_m (doB0.trans ((asgM_v (os := os') rfl (fMethM_ok (r := rM (.int 0) (.obj i) (.str g) (fr l) (.str (wayS s)) true os) (k := i) (fl := mvF b m) (ds := [.str g, fr l, .str (wayS s)]) rfl hk (lk_m (by decide +kernel)) rfl rfl h)).trans rfl)) rfl
theorem m_go {t : Rat} (hk : os[i]? = some (mvO b m)) (h : F_Mover_o_go_on os [.obj i, fr t] = .ok (.non, os')) : F_u_law_do os [.int 1, .obj i, .non, fr t, .non] = .ok (.non, os') :=
  do_m (doB1.trans ((asgM_v (os := os') rfl (fMethM_ok (r := rM (.int 1) (.obj i) .non (fr t) .non true os) (k := i) (fl := mvF b m) (ds := [fr t]) rfl hk (lk_m (by decide +kernel)) rfl rfl h)).trans rfl)) rfl
end
section
variable {j : Nat} {b : Bk} {m : Mv} {os : List Ob} {i : Nat}
def oddL (x : Str) : List D := [.tup [.int 0, .str (Str.ofString "none"), .non, .non, .str (Str.ofString "no stand")], .tup [.int 0, .non, .tup [.int 1, .int 1], .str (Str.ofString "even"), .str (Str.ofString "no stand")],
  .tup [.int 0, .str x, .tup [.int (-1), .int 1], .non, .str (Str.ofString "no number")], .tup [.int 0, .str x, .non, .non, .str (Str.ofString "no number")], .tup [.int 0, .str x, .tup [.int 2, .int 4], .str (Str.ofString "even"), .str (Str.ofString "no number")],
  .tup [.int 0, .str x, .int 1, .str (Str.ofString "even"), .str (Str.ofString "no number")], .tup [.int 0, .str x, .tup [.int 1, .int 1], .str (Str.ofString "fast"), .str (Str.ofString "no way")], .tup [.int 0, .str x, .tup [.int 0, .int 1], .non, .str (Str.ofString "no way")],
  .tup [.int 0, .str x, .tup [.int 1, .int 1], .tup [.str (Str.ofString "even")], .str (Str.ofString "no way")], .tup [.int 1, .non, .tup [.int (-1), .int 2], .non, .str (Str.ofString "no number")], .tup [.int 1, .non, .non, .non, .str (Str.ofString "no number")],
  .tup [.int 1, .non, .tup [.int 0, .int 2], .non, .str (Str.ofString "no number")]]
structure Rw' (os : List Ob) (i : Nat) (d : D) : Prop where
  ex : ∃ A X L W w, d = .tup [A, X, L, W, .str w] ∧ imD A = .ok A ∧ imD X = .ok X ∧ imD L = .ok L ∧ imD W = .ok W ∧ PyData.strOk w = true ∧ F_u_law_do_r os [A, .obj i, X, L, W] = .ok (.str w)
theorem odd_ok (hB : Bok j b) (hN : ∀ p ∈ b, Nm0 p.1) (hk : os[i]? = some (mvO b m)) {x : Str} (hx : x ∈ nms b) : ∀ d ∈ oddL x, Rw' os i d := by
  have none_no : Str.ofString "none" ∉ nms b := fun hx => by
    obtain ⟨p, hp, e⟩ := List.mem_map.mp hx
    rcases hN p hp with h | h
    · exact absurd (e ▸ h) (by decide +kernel)
    · exact absurd (e.symm.trans h) (by decide +kernel)
  have c1 : ecs.contains (Str.ofString "NoStand") = true := by decide +kernel
  have c2 : ecs.contains (Str.ofString "NoNumber") = true := by decide +kernel
  have c3 : ecs.contains (Str.ofString "NoWay") = true := by decide +kernel
  have k1 : PyData.strOk (Str.ofString "no stand") = true := by decide +kernel
  have k2 : PyData.strOk (Str.ofString "no number") = true := by decide +kernel
  have k3 : PyData.strOk (Str.ofString "no way") = true := by decide +kernel
  have l1 : F_look_name [bkD b, .str (Str.ofString "none")] = .err (Str.ofString "NoStand") := look_no hB (w := 7) (n := 1) (.str 1 _ (by decide +kernel) (by decide +kernel)) (decide_eq_false none_no)
  have l2 : F_look_name [bkD b, .non] = .err (Str.ofString "NoStand") := look_no hB (w := 7) (n := 1) (.non 1) rfl
  simp only [oddL, List.mem_cons, List.not_mem_nil, or_false, forall_eq_or_imp, forall_eq]
  refine ⟨⟨_, _, _, _, _, rfl, rfl, rfl, rfl, rfl, k1, r_call hk rfl rfl rfl (call_nost hk rfl l1) c1 w_stand⟩, ⟨_, _, _, _, _, rfl, rfl, rfl, rfl, rfl, k1, r_call hk rfl rfl rfl (call_nost hk rfl l2) c1 w_stand⟩,
    ⟨_, _, _, _, _, rfl, rfl, rfl, rfl, rfl, k2, r_call hk rfl rfl rfl (call_not hB hk hx rfl (by kernel_rfl)) c2 w_numb⟩, ⟨_, _, _, _, _, rfl, rfl, rfl, rfl, rfl, k2, r_call hk rfl rfl rfl (call_not hB hk hx rfl (by kernel_rfl)) c2 w_numb⟩, ⟨_, _, _, _, _, rfl, rfl, rfl, rfl, rfl, k2, r_call hk rfl rfl rfl (call_not hB hk hx rfl (by kernel_rfl)) c2 w_numb⟩, ⟨_, _, _, _, _, rfl, rfl, rfl, rfl, rfl, k2, r_call hk rfl rfl rfl (call_not hB hk hx rfl (by kernel_rfl)) c2 w_numb⟩,
    ⟨_, _, _, _, _, rfl, rfl, rfl, rfl, rfl, k3, r_call hk rfl rfl rfl (call_now hB hk hx rfl (by kernel_rfl) rfl (by kernel_rfl)) c3 w_way⟩, ⟨_, _, _, _, _, rfl, rfl, rfl, rfl, rfl, k3, r_call hk rfl rfl rfl (call_now hB hk hx rfl (by kernel_rfl) rfl (by kernel_rfl)) c3 w_way⟩, ⟨_, _, _, _, _, rfl, rfl, rfl, rfl, rfl, k3, r_call hk rfl rfl rfl (call_now hB hk hx rfl (by kernel_rfl) rfl (by kernel_rfl)) c3 w_way⟩,
    ⟨_, _, _, _, _, rfl, rfl, rfl, rfl, rfl, k2, r_go hk rfl (by kernel_rfl)⟩, ⟨_, _, _, _, _, rfl, rfl, rfl, rfl, rfl, k2, r_go hk rfl (by kernel_rfl)⟩, ⟨_, _, _, _, _, rfl, rfl, rfl, rfl, rfl, k2, r_go hk rfl (by kernel_rfl)⟩⟩
theorem od_first {x : Str} {d0 d1 : D} {x3 x4 : Sl} {os : List Ob} : (fLst (fCons (fTup (fCons (fK (.int 0)) (fCons (fK (.str (Str.ofString "none"))) (fCons (fK .non) (fCons (fK .non) (fCons (fK (.str (Str.ofString "no stand"))) fNil)))))) (fCons (fTup (fCons (fK (.int 0)) (fCons (fK .non) (fCons (fTup (fCons (fK (.int 1)) (fCons (fK (.int 1)) fNil))) (fCons (fK (.str (Str.ofString "even"))) (fCons (fK (.str (Str.ofString "no stand"))) fNil)))))) fNil))) [.im d0, .im d1, .im (.str x), x3, x4, .st false os] = .ok ((oddL x).take 2) := by kernel_rfl
theorem od_0 {x : Str} {d0 d1 : D} {x4 : Sl} {os : List Ob} : fExt 3 (fL (fLst (fCons (fTup (fCons (fK (.int 0)) (fCons (fVar 2) (fCons (fTup (fCons (fNeg (fK (.int 1))) (fCons (fK (.int 1)) fNil))) (fCons (fK .non) (fCons (fK (.str (Str.ofString "no number"))) fNil)))))) fNil))) [.im d0, .im d1, .im (.str x), .ol ((oddL x).take 2), x4, .st false os] = .ok (.nx [.im d0, .im d1, .im (.str x), .ol ((oddL x).take 3), x4, .st false os]) := by kernel_rfl
theorem od_1 {x : Str} {d0 d1 : D} {x4 : Sl} {os : List Ob} : fExt 3 (fL (fLst (fCons (fTup (fCons (fK (.int 0)) (fCons (fVar 2) (fCons (fK .non) (fCons (fK .non) (fCons (fK (.str (Str.ofString "no number"))) fNil)))))) (fCons (fTup (fCons (fK (.int 0)) (fCons (fVar 2) (fCons (fTup (fCons (fK (.int 2)) (fCons (fK (.int 4)) fNil))) (fCons (fK (.str (Str.ofString "even"))) (fCons (fK (.str (Str.ofString "no number"))) fNil)))))) fNil)))) [.im d0, .im d1, .im (.str x), .ol ((oddL x).take 3), x4, .st false os] = .ok (.nx [.im d0, .im d1, .im (.str x), .ol ((oddL x).take 5), x4, .st false os]) := by kernel_rfl
theorem od_2 {x : Str} {d0 d1 : D} {x4 : Sl} {os : List Ob} : fExt 3 (fL (fLst (fCons (fTup (fCons (fK (.int 0)) (fCons (fVar 2) (fCons (fK (.int 1)) (fCons (fK (.str (Str.ofString "even"))) (fCons (fK (.str (Str.ofString "no number"))) fNil)))))) fNil))) [.im d0, .im d1, .im (.str x), .ol ((oddL x).take 5), x4, .st false os] = .ok (.nx [.im d0, .im d1, .im (.str x), .ol ((oddL x).take 6), x4, .st false os]) := by kernel_rfl
theorem od_3 {x : Str} {d0 d1 : D} {x4 : Sl} {os : List Ob} : fExt 3 (fL (fLst (fCons (fTup (fCons (fK (.int 0)) (fCons (fVar 2) (fCons (fTup (fCons (fK (.int 1)) (fCons (fK (.int 1)) fNil))) (fCons (fK (.str (Str.ofString "fast"))) (fCons (fK (.str (Str.ofString "no way"))) fNil)))))) (fCons (fTup (fCons (fK (.int 0)) (fCons (fVar 2) (fCons (fTup (fCons (fK (.int 0)) (fCons (fK (.int 1)) fNil))) (fCons (fK .non) (fCons (fK (.str (Str.ofString "no way"))) fNil)))))) fNil)))) [.im d0, .im d1, .im (.str x), .ol ((oddL x).take 6), x4, .st false os] = .ok (.nx [.im d0, .im d1, .im (.str x), .ol ((oddL x).take 8), x4, .st false os]) := by kernel_rfl
theorem od_4 {x : Str} {d0 d1 : D} {x4 : Sl} {os : List Ob} : fExt 3 (fL (fLst (fCons (fTup (fCons (fK (.int 0)) (fCons (fVar 2) (fCons (fTup (fCons (fK (.int 1)) (fCons (fK (.int 1)) fNil))) (fCons (fTup (fCons (fK (.str (Str.ofString "even"))) fNil)) (fCons (fK (.str (Str.ofString "no way"))) fNil)))))) fNil))) [.im d0, .im d1, .im (.str x), .ol ((oddL x).take 8), x4, .st false os] = .ok (.nx [.im d0, .im d1, .im (.str x), .ol ((oddL x).take 9), x4, .st false os]) := by kernel_rfl
theorem od_5 {x : Str} {d0 d1 : D} {x4 : Sl} {os : List Ob} : fExt 3 (fL (fLst (fCons (fTup (fCons (fK (.int 1)) (fCons (fK .non) (fCons (fTup (fCons (fNeg (fK (.int 1))) (fCons (fK (.int 2)) fNil))) (fCons (fK .non) (fCons (fK (.str (Str.ofString "no number"))) fNil)))))) (fCons (fTup (fCons (fK (.int 1)) (fCons (fK .non) (fCons (fK .non) (fCons (fK .non) (fCons (fK (.str (Str.ofString "no number"))) fNil)))))) fNil)))) [.im d0, .im d1, .im (.str x), .ol ((oddL x).take 9), x4, .st false os] = .ok (.nx [.im d0, .im d1, .im (.str x), .ol ((oddL x).take 11), x4, .st false os]) := by kernel_rfl
theorem od_6 {x : Str} {d0 d1 : D} {x4 : Sl} {os : List Ob} : fExt 3 (fL (fLst (fCons (fTup (fCons (fK (.int 1)) (fCons (fK .non) (fCons (fTup (fCons (fK (.int 0)) (fCons (fK (.int 2)) fNil))) (fCons (fK .non) (fCons (fK (.str (Str.ofString "no number"))) fNil)))))) fNil))) [.im d0, .im d1, .im (.str x), .ol ((oddL x).take 11), x4, .st false os] = .ok (.nx [.im d0, .im d1, .im (.str x), .ol ((oddL x).take 12), x4, .st false os]) := by kernel_rfl
theorem F_refuses (hB : Bok j b) (hN : ∀ p ∈ b, Nm0 p.1) (hk : os[i]? = some (mvO b m)) : F_u_law_refuses os [bkD b, .obj i] = .ok (.bl true) := by
  obtain ⟨p0, b0, hb0⟩ : ∃ p0 b0, b = p0 :: b0 := by
    have := hB.l1
    cases b with
    | nil => simp at this
    | cons p0 b0 => exact ⟨p0, b0, rfl⟩
  have hx : p0.1 ∈ nms b := by rw [hb0]; exact List.mem_cons_self
  generalize hxx : p0.1 = x at hx
  have ok := odd_ok hB hN hk hx
  refine runR_rt (r0 := [.im (bkD b), .im (.obj i), .un, .un, .un, .st false os]) rfl ?_
  refine seq_go (r' := [.im (bkD b), .im (.obj i), .im (.str x), .un, .un, .st false os]) (asg_to (d := .str x) ?_ rfl (by simp) rfl) ?_
  · rw [← hxx, hb0]
    simp [bkD, pD]
  refine seq_go (r' := [.im (bkD b), .im (.obj i), .im (.str x), .ol ((oddL x).take 2), .un, .st false os]) (by rw [x_fAsgN, od_first]; rfl) ?_
  refine seq_go od_0 ?_
  refine seq_go od_1 ?_
  refine seq_go od_2 ?_
  refine seq_go od_3 ?_
  refine seq_go od_4 ?_
  refine seq_go od_5 ?_
  refine seq_go od_6 ?_
  rw [show (oddL x).take 12 = oddL x from rfl]
  refine ret_of ?_ rfl
  have lc : fLc [4] (.nm 4) (fIt true (fVar 3)) (fTest (fBin neD (fCallR 5 F_u_law_do_r (fConsA (fBin ixD (fVar 4) (fK (.int 0))) (fConsA (fVar 1) (fConsA (fBin ixD (fVar 4) (fK (.int 1))) (fConsA (fBin ixD (fVar 4) (fK (.int 2))) (fConsA (fBin ixD (fVar 4) (fK (.int 3))) fNil)))))) (fBin ixD (fVar 4) (fK (.int 4))))) (fVar 4) [.im (bkD b), .im (.obj i), .im (.str x), .ol (oddL x), .un, .st false os] = .ok [] := by
    refine fLc_ok (X := (oddL x).map id) rfl (by simp [oddL]) ?_
    have q := lcGo_typed (t := .nm 4) (ft := fTest (fBin neD (fCallR 5 F_u_law_do_r (fConsA (fBin ixD (fVar 4) (fK (.int 0))) (fConsA (fVar 1) (fConsA (fBin ixD (fVar 4) (fK (.int 1))) (fConsA (fBin ixD (fVar 4) (fK (.int 2))) (fConsA (fBin ixD (fVar 4) (fK (.int 3))) fNil)))))) (fBin ixD (fVar 4) (fK (.int 4))))) (fe := fVar 4) (r := wipeR [.im (bkD b), .im (.obj i), .im (.str x), .ol (oddL x), .un, .st false os] [4]) id (fun _ => false) id (oddL x) fun d hd => ⟨[.im (bkD b), .im (.obj i), .im (.str x), .ol (oddL x), .im d, .st false os], by rfl, by
      obtain ⟨A, X, L, W, w, rfl, iA, iX, iL, iW, kw, e⟩ := (ok d hd).ex
      have c1 : fCallR 5 F_u_law_do_r (fConsA (fBin ixD (fVar 4) (fK (.int 0))) (fConsA (fVar 1) (fConsA (fBin ixD (fVar 4) (fK (.int 1))) (fConsA (fBin ixD (fVar 4) (fK (.int 2))) (fConsA (fBin ixD (fVar 4) (fK (.int 3))) fNil))))) [.im (bkD b), .im (.obj i), .im (.str x), .ol (oddL x), .im (.tup [A, X, L, W, .str w]), .st false os] = .ok (.str w) := by
        unfold fCallR
        rw [show (fConsA (fBin ixD (fVar 4) (fK (.int 0))) (fConsA (fVar 1) (fConsA (fBin ixD (fVar 4) (fK (.int 1))) (fConsA (fBin ixD (fVar 4) (fK (.int 2))) (fConsA (fBin ixD (fVar 4) (fK (.int 3))) fNil))))) [.im (bkD b), .im (.obj i), .im (.str x), .ol (oddL x), .im (.tup [A, X, L, W, .str w]), .st false os] = .ok [A, .obj i, X, L, W] from consA_ok (by rfl) (obd_im iA) (consA_ok rfl rfl (consA_ok (by rfl) (obd_im iX) (consA_ok (by rfl) (obd_im iL) (consA_ok (by rfl) (obd_im iW) rfl)))), bnd_ok]
        exact e
      exact ne_no (d := .str w) c1 (by rfl) (dep_str 0 kw) (by decide), fun z => by cases z⟩
    rw [q]
    simp
  rw [x_fBin, fL_of lc]
  rfl
end
section
variable {j : Nat} {b : Bk} {m : Mv} {ns : List Int}
noncomputable def rh (ns : List Int) (b : Bk) (m : Mv) (x3 x11 x12 x13 x14 x15 x16 x17 x18 x19 : Sl) (os : List Ob) : Rho :=
  [.im (.scr ns), .im (bkN b), .im (.str m.e), x3, .im (.obj 0), .im (.obj 1), .im (shW b m.w), .im (fr m.now), .im (fr m.begun), .im (fr m.long), .im (.str (wayS m.soft)), x11, x12, x13, x14, x15, x16, x17, x18, x19, .un, .st true os]
noncomputable abbrev bd1 : Rho → R Fl := (fAsg (.nm 11) (fBin addD (fK (.int 100)) (fBin mulD (fK (.int 12)) (fVar 3))))
noncomputable abbrev bd2 : Rho → R Fl := (fAsg (.nm 12) (fCall 3 F_u_law_led (fCons (fVar 6) (fCons (fL (fLst (fCons (fTup (fCons (fVar 2) (fCons (fTup (fCons (fK (.int 1)) (fCons (fK (.int 1)) fNil))) fNil))) fNil))) (fCons (fCall 3 F_u_law_eased (fCons (fVar 10) (fCons (fCall 2 F_u_law_less (fCons (fVar 7) (fCons (fVar 8) fNil))) (fCons (fVar 9) fNil)))) fNil)))))
noncomputable abbrev bd3 : Rho → R Fl := (fAsg (.nm 13) (fCall 2 F_u_law_less (fCons (fCall 1 F_u_law_sum (fCons (fL (fLst (fCons (fVar 8) (fCons (fVar 9) fNil)))) fNil)) (fCons (fVar 7) fNil))))
noncomputable abbrev bd4 : Rho → R Fl := (fAsg (.nm 14) (fL (fLst (fCons (fMethR (Str.ofString "Mover") (Str.ofString "shares") 1 F_Mover_o_shares (fVar 4) fNil) (fCons (fMethR (Str.ofString "Mover") (Str.ofString "time") 1 F_Mover_o_time (fVar 4) fNil) (fCons (fMethR (Str.ofString "Mover") (Str.ofString "goal") 1 F_Mover_o_goal (fVar 4) fNil) (fCons (fMethR (Str.ofString "Mover") (Str.ofString "left") 1 F_Mover_o_left (fVar 4) fNil) (fCons (fMethR (Str.ofString "Mover") (Str.ofString "worths") 1 F_Mover_o_worths (fVar 4) fNil) fNil))))))))
noncomputable abbrev bd5 : Rho → R Fl := (fIfS (fTest (fBin neD (fVar 14) (fL (fLst (fCons (fVar 12) (fCons (fVar 7) (fCons (fVar 2) (fCons (fIf (fTest (fBin gtI (fBin ixD (fVar 13) (fK (.int 0))) (fK (.int 0)))) (fVar 13) (fTup (fCons (fK (.int 0)) (fCons (fK (.int 1)) fNil)))) (fCons (fCall 2 F_u_law_worths (fCons (fVar 1) (fCons (fVar 12) fNil))) fNil))))))))) (fRet (fK (.bl false))) fNx)
noncomputable abbrev bd6 : Rho → R Fl := (fIfS (fOr (fTest (fBin neD (fMethR (Str.ofString "Mover") (Str.ofString "shares") 1 F_Mover_o_shares (fVar 5) fNil) (fVar 12))) (fOr (fTest (fBin neD (fMethR (Str.ofString "Mover") (Str.ofString "time") 1 F_Mover_o_time (fVar 5) fNil) (fVar 7))) (fNot (fTest (fCall 2 F_are_shares (fCons (fWk (fVar 1)) (fCons (fVar 12) fNil))))))) (fRet (fK (.bl false))) fNx)
noncomputable abbrev bd7 : Rho → R Fl := (fIfS (fOr (fAnd (fTest (fBin leD (fBin ixD (fVar 13) (fK (.int 0))) (fK (.int 0)))) (fTest (fBin neD (fVar 12) (fL (fLst (fCons (fTup (fCons (fVar 2) (fCons (fTup (fCons (fK (.int 1)) (fCons (fK (.int 1)) fNil))) fNil))) fNil)))))) (fNot (fTest (fCallR 2 F_u_law_refuses (fConsA (fWk (fVar 1)) (fConsA (fVar 4) fNil)))))) (fRet (fK (.bl false))) fNx)
noncomputable abbrev cbr : Rho → R Fl := (fSeq (fAsg (.nm 15) (fCall 3 F_u_law_call (fCons (fVar 0) (fCons (fBin addD (fVar 11) (fK (.int 1))) (fCons (fWk (fVar 1)) fNil)))))
    (fSeq (fPar 6 8 (fCons (fVar 12) (fCons (fVar 7) fNil)))
    (fSeq (fAsg (.tp [(.nm 2), (.nm 9), (.nm 10)]) (fVar 15))
    (fIfX (fTestX (fBinX neD (fLX (fLcM [20] (.nm 20) (fIt false (fTupO (fConsA (fVar 4) (fConsA (fVar 5) fNil)))) (fCallM 5 F_u_law_do (fConsA (fK (.int 0)) (fConsA (fVar 20) (fConsA (fVar 2) (fConsA (fVar 9) (fConsA (fVar 10) fNil)))))))) (fXe (fL (fLst (fCons (fK .non) (fCons (fK .non) fNil))))))) (fRet (fK (.bl false))) fNx))))
noncomputable abbrev gbr : Rho → R Fl := (fSeq (fAsg (.nm 16) (fCall 2 F_u_law_time (fCons (fVar 0) (fCons (fBin addD (fVar 11) (fK (.int 1))) fNil))))
    (fSeq (fAsg (.nm 7) (fCall 1 F_u_law_sum (fCons (fL (fLst (fCons (fVar 7) (fCons (fVar 16) fNil)))) fNil)))
    (fSeq (fAsg (.nm 17) (fCall 2 F_u_law_low (fCons (fBin mulD (fBin ixD (fVar 16) (fK (.int 0))) (fCall 3 F_u_law_pick (fCons (fVar 0) (fCons (fBin addD (fVar 11) (fK (.int 5))) (fCons (fK (.int 4)) fNil))))) (fCons (fBin mulD (fBin ixD (fVar 16) (fK (.int 1))) (fK (.int 3))) fNil))))
    (fSeq (fAsgX 18 (fLX (fSzX (fConsAX (fXm (fCallM 5 F_u_law_do (fConsA (fK (.int 1)) (fConsA (fVar 4) (fConsA (fK .non) (fConsA (fVar 16) (fConsA (fK .non) fNil))))))) (fConsAX (fXm (fCallM 5 F_u_law_do (fConsA (fK (.int 1)) (fConsA (fVar 5) (fConsA (fK .non) (fConsA (fVar 17) (fConsA (fK .non) fNil))))))) fNilX)))))
    (fIfX (fTestX (fBinX neD (fBinX addD (fXe (fVar 18)) (fLX (fSzX (fConsAX (fXm (fCallM 5 F_u_law_do (fConsA (fK (.int 1)) (fConsA (fVar 5) (fConsA (fK .non) (fConsA (fCall 2 F_u_law_less (fCons (fVar 16) (fCons (fVar 17) fNil))) (fConsA (fK .non) fNil))))))) fNilX)))) (fXe (fBin mulD (fL (fLst (fCons (fK .non) fNil))) (fK (.int 3)))))) (fRet (fK (.bl false))) fNx)))))
noncomputable abbrev bdc : Rho → R Bool := (fTest (fBin eqD (fCall 3 F_u_law_pick (fCons (fVar 0) (fCons (fVar 11) (fCons (fK (.int 3)) fNil)))) (fK (.int 0))))
noncomputable abbrev body : Rho → R Fl := fSeq bd1 (fSeq bd2 (fSeq bd3 (fSeq bd4 (fSeq bd5 (fSeq bd6 (fSeq bd7 (fIfS bdc cbr gbr)))))))
theorem if_no' {g : Rho → R Bool} {s1 s2 : Rho → R Fl} {r : Rho} (h : g r = .ok false) : fIfS g s1 s2 r = s2 r := by rw [x_fIfS, h]; rfl
theorem cur_rest {m : Mv} (h : m.part = 1) : m.cur = ind m.e := by
  funext y
  unfold Mv.cur mixW
  have e : ease m.soft m.part = 1 := by
    rw [h]
    unfold ease
    cases m.soft
    · rfl
    · show (1 : Rat) * 1 * (3 - (1 + 1)) = 1
      decide +kernel
  rw [e]
  grind
theorem go_two (m : Mv) (f g : Rat) : (m.go f).go (g - f) = m.go g := by
  unfold Mv.go
  simp only [Mv.mk.injEq, and_true, true_and]
  grind
theorem third_tq {k : Nat} {l : Rat} (hk : k < 4) (hl : TQ 6 12 l) : TQ 18 12 (l * Rat.divInt k 3) ∧ l * Rat.divInt k 3 ≤ l := by
  have q0 : (0 : Rat) ≤ Rat.divInt k 3 ∧ Rat.divInt k 3 ≤ 1 ∧ Rat.divInt k 3 * ((3 : Int) : Rat) = ((k : Int) : Rat) := by
    have : k = 0 ∨ k = 1 ∨ k = 2 ∨ k = 3 := by omega
    rcases this with rfl | rfl | rfl | rfl <;> exact ⟨by decide +kernel, by decide +kernel, by decide +kernel⟩
  obtain ⟨L, el⟩ := hl.gr
  have l0 := hl.pos
  have l1 := hl.le
  have lle : l * Rat.divInt k 3 ≤ l := by
    have := Rat.mul_le_mul_of_nonneg_left q0.2.1 l0
    rwa [Rat.mul_one] at this
  refine ⟨⟨Rat.mul_nonneg l0 q0.1, Rat.le_trans lle l1, L * k, ?_⟩, lle⟩
  rw [Rat.intCast_mul, ← el, ← q0.2.2]
  have : ((18 : Int) : Rat) = ((6 : Int) : Rat) * ((3 : Int) : Rat) := by decide +kernel
  show l * Rat.divInt k 3 * ((18 : Int) : Rat) = _
  rw [this]
  have e6 : l * ((6 : Int) : Rat) = l * (((6 : Nat) : Int) : Rat) := rfl
  grind
theorem low_third {k : Nat} {l : Rat} (hl : Sm 13 l) : F_u_law_low [.int (l.num * k), .int ((l.den : Int) * 3)] = .ok (fr (l * Rat.divInt k 3)) := by
  have hd : ((l.den : Int) * 3) ≠ 0 := Int.mul_ne_zero (den_ne l) (by decide)
  have hb : ((l.den : Int) * 3).natAbs < 2 ^ 15 := by
    have := hl.2
    have : l.den < 8192 := this
    omega
  have e := F_low_ok (u := l.num * k) hd hb (by decide)
  rw [e]
  congr 2
  refine divInt_is hd ?_
  rw [Rat.intCast_mul, Rat.intCast_mul, ndq l]
  have h4 : Rat.divInt k 3 * ((3 : Int) : Rat) = ((k : Int) : Rat) := by
    rw [Rat.divInt_eq_div]
    exact Rat.div_mul_cancel (by decide +kernel)
  grind
theorem tq_diff {u v : Rat} (hu : TQ 18 300 u) (hv : TQ 18 300 v) (h : v ≤ u) {B : Nat} (hB : u - v ≤ ((B : Int) : Rat)) : TQ 18 B (u - v) := by
  obtain ⟨A, ea⟩ := hu.gr
  obtain ⟨C, ec⟩ := hv.gr
  refine ⟨by grind, hB, A - C, ?_⟩
  rw [Rat.intCast_sub, ← ea, ← ec]
  grind
theorem xm_call {n : Nat} {F : List Ob → List D → R (D × List Ob)} {fs : Rho → R (List D)} {r r' : Rho} {ds : List D} {d : D} {os os' : List Ob} (h1 : fs r = .ok ds) (h2 : ds.length = n) (ho : stOf r = os) (h : F os ds = .ok (d, os')) (hr : setSt r os' = r') : fXm (fCallM n F fs) r = .ok (d, r') := by
  unfold fXm fCallM
  rw [h1, bnd_ok, if_pos (by simp [h2]), ho, h, bnd_ok, hr]
theorem consAX_ok {f : Rho → R (D × Rho)} {fs : Rho → R (List D × Rho)} {r r1 r2 : Rho} {d : D} {ds : List D} (h1 : f r = .ok (d, r1)) (hd : imD d = .ok d) (hw : wSt r1 = true) (h2 : fs r1 = .ok (ds, r2)) : fConsAX f fs r = .ok (d :: ds, r2) := by
  unfold fConsAX
  rw [h1, bnd_ok, hd, bnd_ok, if_pos hw, h2]
  rfl
theorem lX_ok {fs : Rho → R (List D × Rho)} {r r1 : Rho} {ds : List D} (h : fs r = .ok (ds, r1)) (hl : ds.length ≤ 100) : fLX (fSzX fs) r = .ok (.lst ds, r1) := by
  unfold fLX fSzX
  rw [h, bnd_ok, if_pos (show szD ds = true from decide_eq_true (sz_le (by omega)))]
  rfl
theorem nons (r : Rho) (n : Nat) (hn : n ≤ 50) : neD r (.lst (List.replicate n .non)) (.lst (List.replicate n .non)) = .ok (.bl false) := neD_self (n := 1) (dep_lst (n := 0) fun d hd => by
  rw [(List.mem_replicate.mp hd).2]
  exact dep_non 0) (by decide)
theorem alone' (hb : Bok j b) {x : Str} (hx : x ∈ nms b) : D.lst [.tup [.str x, .tup [.int 1, .int 1]]] = shW b (ind x) := alone hb hx
structure Rd (b : Bk) (c : Nat) (m : Mv) : Prop where
  ok : MvOk (nms b) 18 300 (1 + 39 * c) m
  tn : TQ 18 (12 * c) m.now
theorem body_ok {j k c : Nat} {x11 x12 x13 x14 x15 x16 x17 x18 x19 : Sl} (hb : Bok j b) (hN : ∀ p ∈ b, Nm0 p.1) (h : Rd b c m) (hc : c < 10) :
    ∃ m2, Rd b (c + 1) m2 ∧ ∃ y11 y12 y13 y14 y15 y16 y17 y18, body (rh ns b m (.im (.int (k : Int))) x11 x12 x13 x14 x15 x16 x17 x18 x19 [mvO b m, mvO b m]) = .ok (.nx (rh ns b m2 (.im (.int (k : Int))) y11 y12 y13 y14 y15 y16 y17 y18 x19 [mvO b m2, mvO b m2])) := by
  have hm := h.ok
  have hD : 0 < 18 := by decide
  have hB0 : 0 < 300 := by decide
  have hB : 300 * 18 < 2 ^ 13 := by decide
  have n1 : 1 ≤ 13 := by decide
  have kn : 1 + 39 * c + 3 * 13 ≤ 570 := by omega
  have sn : Sm 13 m.now := hm.tn.sm hD hB0 hB
  have sb : Sm 13 m.begun := hm.tb.sm hD hB0 hB
  have sl : Sm 13 m.long := hm.tl.sm hD hB0 hB
  have sd : Sm 13 (m.now - m.begun) := tq_sub hm.tn hm.tb hm.le
  have d0 : 0 ≤ m.now - m.begun := by have := hm.le; grind
  have sbl : Sm 14 (m.begun + m.long) := (hm.tb.add hm.tl).sm hD (by decide) (by decide)
  have wd := cur_wd hb.nodup hm hD hB n1
  have wt := wd.wt hb.nodup
  have e_shr := F_mvshares (os := [mvO b m, mvO b m]) (i := 0) hb rfl hm hD hB0 hB n1 kn
  have e_shr1 := F_mvshares (os := [mvO b m, mvO b m]) (i := 1) hb rfl hm hD hB0 hB n1 kn
  have e_wor := F_mvworths (os := [mvO b m, mvO b m]) (i := 0) hb rfl hm hD hB0 hB n1 kn
  have e_left := F_mvleft (os := [mvO b m, mvO b m]) (i := 0) rfl hm hD hB0 hB (by decide)
  have e_goal := F_mvgoal (b := b) (m := m) (os := [mvO b m, mvO b m]) (i := 0) rfl
  have e_time := F_mvtime (b := b) (m := m) (os := [mvO b m, mvO b m]) (i := 0) rfl
  have e_time1 := F_mvtime (b := b) (m := m) (os := [mvO b m, mvO b m]) (i := 1) rfl
  have l_diff := F_lawdiff sn sb (by decide)
  have l_ease := F_lawE m.soft sd sl d0 (by decide)
  have l_led := led_at hb hm (by omega) hm.tn hm.le
  have l_sum := lawsumQ sb sl (by decide)
  have l_rest := F_lawdiff sbl (sn.mono (by decide)) (by decide)
  have l_wor := F_lawworths (A := shW b m.cur) hb (fun x hx => wt.sm x hx) (by omega) (.inl rfl)
  have a_sh := F_areshares (A := shW b m.cur) hb wt (by omega) (.inl rfl)
  have rfs := F_refuses (os := [mvO b m, mvO b m]) (i := 0) hb hN rfl
  have nmE := hb.nmOk hm.he
  obtain ⟨X3, hX3⟩ : ∃ X3 : Sl, X3 = .im (.int (k : Int)) := ⟨_, rfl⟩
  have dW : Dep 3 (shW b m.cur) := canon_dep hb _
  have dR : Dep 2 (.tup ((List.range j).map fun q => fr (wor b m.cur q))) := dep_tup (n := 1) fun d hd => by
    obtain ⟨q, _, rfl⟩ := List.mem_map.mp hd
    exact dep_fr _
  obtain ⟨R0, hR0⟩ : ∃ q, q = m.begun + m.long - m.now := ⟨_, rfl⟩
  rw [← hR0] at l_rest
  have lft : m.left = if 0 < R0 then R0 else 0 := by rw [hR0]; rfl
  obtain ⟨TL, hTL⟩ : ∃ TL : D, TL = .lst [shW b m.cur, fr m.now, .str m.e, fr m.left, .tup ((List.range j).map fun q => fr (wor b m.cur q))] := ⟨_, rfl⟩
  have iTL : imD TL = .ok TL := by rw [hTL]; rfl
  have pre : ∀ x, fIfS bdc cbr gbr (rh ns b m X3 (.im (.int (100 + 12 * (k : Int)))) (.im (shW b m.cur)) (.im (fr R0)) (.im TL) x15 x16 x17 x18 x19 [mvO b m, mvO b m]) = x → body (rh ns b m X3 x11 x12 x13 x14 x15 x16 x17 x18 x19 [mvO b m, mvO b m]) = x := fun x hx => by
    refine seq_go (r' := rh ns b m X3 (.im (.int (100 + 12 * (k : Int)))) x12 x13 x14 x15 x16 x17 x18 x19 [mvO b m, mvO b m]) (asg_to (d := .int (100 + 12 * (k : Int))) (off_mul (by rw [hX3]; rfl) (mulB_l (by decide) (by decide))) rfl (by simp [rh]) rfl) ?_
    refine seq_go (r' := rh ns b m X3 (.im (.int (100 + 12 * (k : Int)))) (.im (shW b m.cur)) x13 x14 x15 x16 x17 x18 x19 [mvO b m, mvO b m]) (asg_to (d := shW b m.cur) (call_3 (a := shW b m.w) (b := .lst [.tup [.str m.e, fr 1]]) rfl rfl (by rfl) rfl (call_3 (a := .str (wayS m.soft)) (b := fr (m.now - m.begun)) (c := fr m.long) rfl rfl (call_2 (a := fr m.now) (b := fr m.begun) rfl rfl rfl rfl l_diff) rfl rfl rfl l_ease) rfl l_led) rfl (by simp [rh]) rfl) ?_
    refine seq_go (r' := rh ns b m X3 (.im (.int (100 + 12 * (k : Int)))) (.im (shW b m.cur)) (.im (fr R0)) x14 x15 x16 x17 x18 x19 [mvO b m, mvO b m]) (asg_to (d := fr R0) (call_2 (a := fr (m.begun + m.long)) (b := fr m.now) (call_1 (a := .lst [fr m.begun, fr m.long]) (by rfl) rfl l_sum) rfl rfl rfl l_rest) rfl (by simp [rh]) rfl) ?_
    obtain ⟨r, hr⟩ : ∃ r, r = rh ns b m X3 (.im (.int (100 + 12 * (k : Int)))) (.im (shW b m.cur)) (.im (fr R0)) x14 x15 x16 x17 x18 x19 [mvO b m, mvO b m] := ⟨_, rfl⟩
    rw [← hr]
    have so : stOf r = [mvO b m, mvO b m] := by rw [hr]; rfl
    have hs : hasSt r = true := by rw [hr]; rfl
    have v4 : fVar 4 r = .ok (.obj 0) := by rw [hr]; rfl
    have lk : ∀ {x : Str}, x ∈ ([Str.ofString "part", Str.ofString "call", Str.ofString "go_on", Str.ofString "time", Str.ofString "shares", Str.ofString "worths", Str.ofString "goal", Str.ofString "left"] : List Str) → (mvF b m).lookup x = none := fun h => lk_m h
    have q1 : fMethR (Str.ofString "Mover") (Str.ofString "shares") 1 F_Mover_o_shares (fVar 4) fNil r = .ok (shW b m.cur) := fMethR_ok v4 (by rw [so]; rfl) (lk_m (by decide)) rfl rfl hs (by rw [so]; exact e_shr)
    have q2 : fMethR (Str.ofString "Mover") (Str.ofString "time") 1 F_Mover_o_time (fVar 4) fNil r = .ok (fr m.now) := fMethR_ok v4 (by rw [so]; rfl) (lk_m (by decide)) rfl rfl hs (by rw [so]; exact e_time)
    have q3 : fMethR (Str.ofString "Mover") (Str.ofString "goal") 1 F_Mover_o_goal (fVar 4) fNil r = .ok (.str m.e) := fMethR_ok v4 (by rw [so]; rfl) (lk_m (by decide)) rfl rfl hs (by rw [so]; exact e_goal)
    have q4 : fMethR (Str.ofString "Mover") (Str.ofString "left") 1 F_Mover_o_left (fVar 4) fNil r = .ok (fr m.left) := fMethR_ok v4 (by rw [so]; rfl) (lk_m (by decide)) rfl rfl hs (by rw [so]; exact e_left)
    have q5 : fMethR (Str.ofString "Mover") (Str.ofString "worths") 1 F_Mover_o_worths (fVar 4) fNil r = .ok (.tup ((List.range j).map fun q => fr (wor b m.cur q))) := fMethR_ok v4 (by rw [so]; rfl) (lk_m (by decide)) rfl rfl hs (by rw [so]; exact e_wor)
    refine seq_go (r' := rh ns b m X3 (.im (.int (100 + 12 * (k : Int)))) (.im (shW b m.cur)) (.im (fr R0)) (.im TL) x15 x16 x17 x18 x19 [mvO b m, mvO b m]) (asg_to (d := TL) ?_ iTL (by rw [hr]; simp [rh]) (by rw [hr]; rfl)) ?_
    · rw [hTL]
      show ((fLst _ r).bnd _) = _
      unfold fLst
      rw [x_fCons, q1, bnd_ok, show imD (shW b m.cur) = .ok (shW b m.cur) from rfl, bnd_ok, x_fCons, q2, bnd_ok, show imD (fr m.now) = .ok (fr m.now) from rfl, bnd_ok, x_fCons, q3, bnd_ok, show imD (D.str m.e) = .ok (.str m.e) from rfl, bnd_ok, x_fCons, q4, bnd_ok, show imD (fr m.left) = .ok (fr m.left) from rfl, bnd_ok, x_fCons, q5]
      rfl
    clear q1 q2 q3 q4 q5 v4 hs so hr r
    obtain ⟨r, hr⟩ : ∃ r, r = rh ns b m X3 (.im (.int (100 + 12 * (k : Int)))) (.im (shW b m.cur)) (.im (fr R0)) (.im TL) x15 x16 x17 x18 x19 [mvO b m, mvO b m] := ⟨_, rfl⟩
    rw [← hr] at hx ⊢
    have so : stOf r = [mvO b m, mvO b m] := by rw [hr]; rfl
    have hs : hasSt r = true := by rw [hr]; rfl
    have v5 : fVar 5 r = .ok (.obj 1) := by rw [hr]; rfl
    have v12 : fVar 12 r = .ok (shW b m.cur) := by rw [hr]; rfl
    have v7 : fVar 7 r = .ok (fr m.now) := by rw [hr]; rfl
    have v13 : fVar 13 r = .ok (fr R0) := by rw [hr]; rfl
    have v2 : fVar 2 r = .ok (.str m.e) := by rw [hr]; rfl
    have w1 : fWk (fVar 1) r = .ok (bkD b) := by rw [hr]; rfl
    have q1 : fMethR (Str.ofString "Mover") (Str.ofString "shares") 1 F_Mover_o_shares (fVar 5) fNil r = .ok (shW b m.cur) := fMethR_ok v5 (by rw [so]; rfl) (lk_m (by decide)) rfl rfl hs (by rw [so]; exact e_shr1)
    have q2 : fMethR (Str.ofString "Mover") (Str.ofString "time") 1 F_Mover_o_time (fVar 5) fNil r = .ok (fr m.now) := fMethR_ok v5 (by rw [so]; rfl) (lk_m (by decide)) rfl rfl hs (by rw [so]; exact e_time1)
    have nz : decide (0 < R0.num) = decide (0 < R0) := decide_eq_decide.mpr (num_pos' R0)
    have gt : fTest (fBin gtI (fBin ixD (fVar 13) (fK (.int 0))) (fK (.int 0))) r = .ok (decide (0 < R0)) := by
      rw [x_fTest, x_fBin, x_fBin, v13, bnd_ok]
      show (((ixD r (fr R0) (.int 0)).bnd _).bnd _) = _
      rw [x_ixD_fr0, bnd_ok, ← nz]
      rfl
    have c5 : fIf (fTest (fBin gtI (fBin ixD (fVar 13) (fK (.int 0))) (fK (.int 0)))) (fVar 13) (fTup (fCons (fK (.int 0)) (fCons (fK (.int 1)) fNil))) r = .ok (fr m.left) := by
      rw [x_fIf, gt, bnd_ok, lft]
      by_cases z : 0 < R0
      · rw [decide_eq_true z, if_pos rfl, if_pos z, v13]
      · rw [decide_eq_false z, if_neg (by decide), if_neg z]
        rfl
    have cW : fCall 2 F_u_law_worths (fCons (fVar 1) (fCons (fVar 12) fNil)) r = .ok (.tup ((List.range j).map fun q => fr (wor b m.cur q))) := call_2 (a := bkN b) (b := shW b m.cur) (by rw [hr]; rfl) rfl v12 rfl l_wor
    refine seq_go (if_skip (ne_no (d := TL) (n := 4) (by rw [hr]; rfl) ?_ ?_ (by decide))) ?_
    · rw [hTL]
      show ((fLst _ r).bnd _) = _
      unfold fLst
      rw [x_fCons, v12, bnd_ok, show imD (shW b m.cur) = .ok (shW b m.cur) from rfl, bnd_ok, x_fCons, v7, bnd_ok, show imD (fr m.now) = .ok (fr m.now) from rfl, bnd_ok, x_fCons, v2, bnd_ok, show imD (D.str m.e) = .ok (.str m.e) from rfl, bnd_ok, x_fCons, c5, bnd_ok, show imD (fr m.left) = .ok (fr m.left) from rfl, bnd_ok, x_fCons, cW]
      rfl
    · rw [hTL]
      refine dep_lst (n := 3) fun d hd => ?_
      simp only [List.mem_cons, List.not_mem_nil, or_false] at hd
      rcases hd with rfl | rfl | rfl | rfl | rfl
      · exact dW
      · exact (dep_fr _).mono (by decide)
      · exact dep_str 3 nmE.2.1
      · exact (dep_fr _).mono (by decide)
      · exact dR.mono (by decide)
    refine seq_go (if_skip (or_no (ne_no (d := shW b m.cur) q1 v12 dW (by decide)) (or_no (ne_no (d := fr m.now) q2 v7 (dep_fr _) (by decide)) ?_))) ?_
    · rw [x_fNot, x_fTest, call_2 (a := bkD b) (b := shW b m.cur) w1 rfl v12 rfl a_sh]
      rfl
    refine seq_go (if_skip (or_no ?_ ?_)) hx
    · have le : fTest (fBin leD (fBin ixD (fVar 13) (fK (.int 0))) (fK (.int 0))) r = .ok (!decide (0 < R0)) := by
        rw [x_fTest, x_fBin, x_fBin, v13, bnd_ok]
        show (((ixD r (fr R0) (.int 0)).bnd _).bnd _) = _
        rw [x_ixD_fr0, bnd_ok, ← nz]
        show R.ok (decide (R0.num ≤ 0)) = _
        congr 1
        by_cases z : 0 < R0.num
        · rw [decide_eq_true z, decide_eq_false (by omega)]; rfl
        · rw [decide_eq_false z, decide_eq_true (by omega)]; rfl
      rw [x_fAnd, le, bnd_ok]
      by_cases z : 0 < R0
      · rw [decide_eq_true z]; rfl
      · rw [decide_eq_false z]
        have p1 : m.part = 1 := by
          unfold Mv.part
          rw [if_neg (by rw [hR0] at z; grind)]
        have cr := cur_rest p1
        simp only [Bool.not_false, if_true]
        refine ne_no (d := shW b m.cur) v12 ?_ dW (by decide)
        rw [cr, ← alone' hb hm.he]
        show ((fLst _ r).bnd _) = _
        unfold fLst
        rw [x_fCons, x_fTup, x_fCons, v2]
        rfl
    · rw [x_fNot, x_fTest]
      unfold fCallR
      rw [consA_ok (d := bkD b) (ds := [.obj 0]) w1 rfl (consA_ok (d := .obj 0) (by rw [hr]; rfl) rfl rfl), bnd_ok, hs, so]
      show (((F_u_law_refuses [mvO b m, mvO b m] [bkD b, .obj 0]).bnd _).bnd _) = _
      rw [rfs]
      rfl
  rw [← hX3]
  obtain ⟨pp, hp, ep⟩ := pickN ns (100 + 12 * (k : Int)) 3 (by omega) (by decide)
  obtain ⟨r, hr⟩ : ∃ r, r = rh ns b m X3 (.im (.int (100 + 12 * (k : Int)))) (.im (shW b m.cur)) (.im (fr R0)) (.im TL) x15 x16 x17 x18 x19 [mvO b m, mvO b m] := ⟨_, rfl⟩
  have cnd : bdc r = .ok (decide (pp = 0)) := by
    show fTest _ r = _
    rw [x_fTest, x_fBin, call_3 (a := .scr ns) (b := .int (100 + 12 * (k : Int))) (c := .int 3) (by rw [hr]; rfl) rfl (by rw [hr]; rfl) rfl rfl rfl ep]
    show ((eqD r (.int (pp : Int)) (.int 0)).bnd boolOf) = _
    have e : eqD r (.int (pp : Int)) (.int 0) = .ok (.bl ((pp : Int) == 0)) := by simp
    rw [e]
    show R.ok ((pp : Int) == 0) = _
    congr 1
    rw [Bool.eq_iff_iff, beq_iff_eq, decide_eq_true_eq]
    omega
  by_cases z : pp = 0
  ·
    obtain ⟨g, l, s, ec, hg, hl⟩ := F_lawcall (ns := ns) hb (100 + 12 * (k : Int) + 1) (by omega)
    have hl18 : TQ 18 300 l := (hl.fine (c := 3) rfl).mono (by decide)
    have hm2 : MvOk (nms b) 18 300 (1 + 39 * (c + 1)) (m.call g l s) := by
      have := hm.call hb.nodup hD hB n1 hg hl18 s
      have e : 1 + 39 * c + 3 * 13 = 1 + 39 * (c + 1) := by omega
      rwa [e] at this
    have c1 : F_Mover_o_call [mvO b m, mvO b m] [.obj 0, .str g, fr l, .str (wayS s)] = .ok (.non, [mvO b (m.call g l s), mvO b m]) := F_mvcall (os := [mvO b m, mvO b m]) (i := 0) (s := s) hb rfl hm hD hB0 hB n1 kn hg hl.pos
    have c2 : F_Mover_o_call [mvO b (m.call g l s), mvO b m] [.obj 1, .str g, fr l, .str (wayS s)] = .ok (.non, [mvO b (m.call g l s), mvO b (m.call g l s)]) := F_mvcall (os := [mvO b (m.call g l s), mvO b m]) (i := 1) (s := s) hb rfl hm hD hB0 hB n1 kn hg hl.pos
    refine ⟨m.call g l s, ⟨hm2, h.tn.mono (by omega)⟩, .im (.int (100 + 12 * (k : Int))), .im (shW b m.cur), .im (fr R0), .im TL, .im (.tup [.str g, fr l, .str (wayS s)]), x16, x17, x18, pre _ ?_⟩
    rw [← hr, if_yes (by rw [cnd, decide_eq_true z])]
    refine seq_go (r' := rh ns b m X3 (.im (.int (100 + 12 * (k : Int)))) (.im (shW b m.cur)) (.im (fr R0)) (.im TL) (.im (.tup [.str g, fr l, .str (wayS s)])) x16 x17 x18 x19 [mvO b m, mvO b m]) (asg_to (d := .tup [.str g, fr l, .str (wayS s)]) (call_3 (a := .scr ns) (b := .int (100 + 12 * (k : Int) + 1)) (c := bkD b) (by rw [hr]; rfl) rfl (add_k (by rw [hr]; rfl)) rfl (by rw [hr]; rfl) rfl ec) rfl (by rw [hr]; simp [rh]) (by rw [hr]; rfl)) ?_
    refine seq_go (r' := [.im (.scr ns), .im (bkN b), .im (.str m.e), X3, .im (.obj 0), .im (.obj 1), .im (shW b m.cur), .im (fr m.now), .im (fr m.now), .im (fr m.long), .im (.str (wayS m.soft)), .im (.int (100 + 12 * (k : Int))), .im (shW b m.cur), .im (fr R0), .im TL, .im (.tup [.str g, fr l, .str (wayS s)]), x16, x17, x18, x19, .un, .st true [mvO b m, mvO b m]]) (by rfl) ?_
    refine seq_go (r' := rh ns b (m.call g l s) X3 (.im (.int (100 + 12 * (k : Int)))) (.im (shW b m.cur)) (.im (fr R0)) (.im TL) (.im (.tup [.str g, fr l, .str (wayS s)])) x16 x17 x18 x19 [mvO b m, mvO b m]) (by rfl) ?_
    obtain ⟨M, hM⟩ : ∃ M, M = m.call g l s := ⟨_, rfl⟩
    have s2 : M.e = g ∧ M.long = l ∧ M.soft = s := by rw [hM]; exact ⟨rfl, rfl, rfl⟩
    rw [← hM] at c1 c2 ⊢
    have call0 := m_call (b := b) (m := m) (os := [mvO b m, mvO b m]) (i := 0) (g := g) (l := l) (s := s) rfl c1
    have call1 := m_call (b := b) (m := m) (os := [mvO b M, mvO b m]) (i := 1) (g := g) (l := l) (s := s) rfl c2
    obtain ⟨rA, hrA⟩ : ∃ rA : List Ob → Rho, rA = rh ns b M X3 (.im (.int (100 + 12 * (k : Int)))) (.im (shW b m.cur)) (.im (fr R0)) (.im TL) (.im (.tup [.str g, fr l, .str (wayS s)])) x16 x17 x18 x19 := ⟨_, rfl⟩
    have key : ∀ (os os' : List Ob) (i : Nat), F_u_law_do os [.int 0, .obj i, .str g, fr l, .str (wayS s)] = .ok (.non, os') → noE (setT (.nm 20) (.obj i) (wipeR (rA os) [20])) = .ok ((rA os).set 20 (.im (.obj i))) ∧ noE (fCallM 5 F_u_law_do (fConsA (fK (.int 0)) (fConsA (fVar 20) (fConsA (fVar 2) (fConsA (fVar 9) (fConsA (fVar 10) fNil))))) ((rA os).set 20 (.im (.obj i)))) = .ok (.non, os') := fun os os' i hi => by
      refine ⟨by rw [hrA]; rfl, ?_⟩
      have e : fCallM 5 F_u_law_do (fConsA (fK (.int 0)) (fConsA (fVar 20) (fConsA (fVar 2) (fConsA (fVar 9) (fConsA (fVar 10) fNil))))) ((rA os).set 20 (.im (.obj i))) = .ok (.non, os') := by
        have a : (fConsA (fK (.int 0)) (fConsA (fVar 20) (fConsA (fVar 2) (fConsA (fVar 9) (fConsA (fVar 10) fNil))))) ((rA os).set 20 (.im (.obj i))) = .ok [.int 0, .obj i, .str g, fr l, .str (wayS s)] := by
          rw [hrA]
          show R.ok [D.int 0, .obj i, .str M.e, fr M.long, .str (wayS M.soft)] = _
          rw [s2.1, s2.2.1, s2.2.2]
        have so : stOf ((rA os).set 20 (.im (.obj i))) = os := by rw [hrA]; rfl
        unfold fCallM
        rw [a, bnd_ok, so]
        exact hi
      rw [e]; rfl
    have lcm : fLcM [20] (.nm 20) (fIt false (fTupO (fConsA (fVar 4) (fConsA (fVar 5) fNil)))) (fCallM 5 F_u_law_do (fConsA (fK (.int 0)) (fConsA (fVar 20) (fConsA (fVar 2) (fConsA (fVar 9) (fConsA (fVar 10) fNil)))))) (rA [mvO b m, mvO b m]) = .ok ([.non, .non], rA [mvO b M, mvO b M]) := by
      obtain ⟨k1, k2⟩ := key _ _ _ call0
      obtain ⟨k3, k4⟩ := key _ _ _ call1
      have go : lcGoM [20] (.nm 20) (fCallM 5 F_u_law_do (fConsA (fK (.int 0)) (fConsA (fVar 20) (fConsA (fVar 2) (fConsA (fVar 9) (fConsA (fVar 10) fNil)))))) (rA [mvO b m, mvO b m]) [.obj 0, .obj 1] = .ok ([.non, .non], [mvO b M, mvO b M]) := by
        have e1 : setSt (rA [mvO b m, mvO b m]) [mvO b M, mvO b m] = rA [mvO b M, mvO b m] := by rw [hrA]; rfl
        have e2 : setSt (rA [mvO b M, mvO b m]) [mvO b M, mvO b M] = rA [mvO b M, mvO b M] := by rw [hrA]; rfl
        have e1' : wSt ((rA [mvO b m, mvO b m]).set 20 (.im (.obj 0))) = true := by rw [hrA]; rfl
        have e2' : wSt ((rA [mvO b M, mvO b m]).set 20 (.im (.obj 1))) = true := by rw [hrA]; rfl
        have e3 : stOf (rA [mvO b M, mvO b M]) = [mvO b M, mvO b M] := by rw [hrA]; rfl
        simp only [lcGoM, k1, k2, bnd_ok, e1', if_true, e1]
        show ((R.ok D.non).bnd _) = _
        rw [bnd_ok, k3, bnd_ok, e2', if_pos rfl, k4]
        show (((R.ok D.non).bnd fun y => _).bnd _) = _
        rw [bnd_ok, show setSt (rA [mvO b M, mvO b m]) ((D.non, [mvO b M, mvO b M]) : D × List Ob).2 = rA [mvO b M, mvO b M] from e2, e3]
        rfl
      unfold fLcM
      rw [show plainV [20] (rA [mvO b m, mvO b m]) = true from by rw [hrA]; rfl, if_pos rfl, show fIt false (fTupO (fConsA (fVar 4) (fConsA (fVar 5) fNil))) (rA [mvO b m, mvO b m]) = .ok [.obj 0, .obj 1] from by rw [hrA]; rfl, bnd_ok, if_pos (decide_eq_true (sz_lt' (by decide))), go, bnd_ok]
      show R.ok ([D.non, D.non], setSt (rA [mvO b m, mvO b m]) [mvO b M, mvO b M]) = _
      rw [show setSt (rA [mvO b m, mvO b m]) [mvO b M, mvO b M] = rA [mvO b M, mvO b M] from by rw [hrA]; rfl]
    have hw1 : wSt (rA [mvO b m, mvO b m]) = true := by rw [hrA]; rfl
    have hw2 : wSt (rA [mvO b M, mvO b M]) = true := by rw [hrA]; rfl
    rw [← hrA]
    show fIfX _ _ _ (rA [mvO b m, mvO b m]) = _
    unfold fIfX fTestX fBinX
    rw [hw1, if_pos rfl]
    unfold fLX
    rw [lcm]
    simp only [bnd_ok]
    rw [hw2, if_pos rfl]
    have nn := nons (rA [mvO b M, mvO b M]) 2 (by decide)
    show (((((R.ok (D.lst [.non, .non], rA [mvO b M, mvO b M])).bnd fun q => (neD q.2 (.lst [.non, .non]) q.1).bnd fun z => R.ok (z, q.2)).bnd fun p => (boolOf p.1).bnd fun b => R.ok (b, p.2)).bnd fun p => if p.1 = true then _ else _) : R Fl) = _
    rw [bnd_ok]
    show ((((neD (rA [mvO b M, mvO b M]) (.lst (List.replicate 2 .non)) (.lst (List.replicate 2 .non))).bnd _).bnd _).bnd _) = _
    rw [nn]
    rfl
  ·
    obtain ⟨g, eg, tg⟩ := law_time_ok ns (100 + 12 * (k : Int) + 1) (by omega)
    have g0 := tg.pos
    have tg18 : TQ 18 12 g := tg.fine (c := 3) rfl
    obtain ⟨q, hq, eq⟩ := pickN ns (100 + 12 * (k : Int) + 5) 4 (by omega) (by decide)
    obtain ⟨tf, lef⟩ := third_tq hq tg
    obtain ⟨f, hf⟩ : ∃ f, f = g * Rat.divInt q 3 := ⟨_, rfl⟩
    rw [← hf] at tf lef
    have sg : Sm 13 g := tg18.sm hD (by decide) (by decide)
    have sf : Sm 13 f := tf.sm hD (by decide) (by decide)
    have tdf : TQ 18 12 (g - f) := tq_diff (tg18.mono (by decide)) (tf.mono (by decide)) lef (by have := tg18.le; have := tf.pos; grind)
    have sdf : Sm 13 (g - f) := tdf.sm hD (by decide) (by decide)
    have t2 : TQ 18 (12 * (c + 1)) (m.now + g) := by
      have := h.tn.add tg18
      have e : 12 * c + 12 = 12 * (c + 1) := by omega
      rwa [e] at this
    have hm2 : MvOk (nms b) 18 300 (1 + 39 * (c + 1)) (m.go g) := by
      have := hm.go g0 (t2.mono (by omega))
      exact ⟨this.he, this.tn, this.tb, this.tl, this.le, this.w.mono (by omega)⟩
    have hmf : MvOk (nms b) 18 300 (1 + 39 * c) (m.go f) := hm.go tf.pos ((h.tn.add tf).mono (by omega))
    have c1 := F_mvgo (os := [mvO b m, mvO b m]) (i := 0) (t := g) rfl hm hD hB0 hB (by decide) g0 sg
    have c2 := F_mvgo (os := [mvO b (m.go g), mvO b m]) (i := 1) (t := f) rfl hm hD hB0 hB (by decide) tf.pos sf
    have c3 := F_mvgo (os := [mvO b (m.go g), mvO b (m.go f)]) (i := 1) (t := g - f) rfl hmf hD hB0 hB (by decide) tdf.pos sdf
    rw [go_two] at c3
    have d1 := m_go (b := b) (m := m) (i := 0) rfl c1
    have d2 := m_go (b := b) (m := m) (i := 1) rfl c2
    have d3 := m_go (b := b) (m := m.go f) (i := 1) rfl c3
    have l_sum2 := lawsumQ sn sg (by decide)
    have l_low := low_third (k := q) sg
    rw [← hf] at l_low
    have l_df := F_lawdiff sg sf (by decide)
    obtain ⟨M, hM⟩ : ∃ M, M = m.go g := ⟨_, rfl⟩
    have hMn : M.now = m.now + g ∧ M.e = m.e ∧ M.w = m.w ∧ M.begun = m.begun ∧ M.long = m.long ∧ M.soft = m.soft := by rw [hM]; exact ⟨rfl, rfl, rfl, rfl, rfl, rfl⟩
    refine ⟨m.go g, ⟨hm2, t2⟩, .im (.int (100 + 12 * (k : Int))), .im (shW b m.cur), .im (fr R0), .im TL, x15, .im (fr g), .im (fr f), .im (.lst [.non, .non]), pre _ ?_⟩
    rw [← hr, if_no' (by rw [cnd, decide_eq_false z])]
    refine seq_go (r' := rh ns b m X3 (.im (.int (100 + 12 * (k : Int)))) (.im (shW b m.cur)) (.im (fr R0)) (.im TL) x15 (.im (fr g)) x17 x18 x19 [mvO b m, mvO b m]) (asg_to (d := fr g) (call_2 (a := .scr ns) (b := .int (100 + 12 * (k : Int) + 1)) (by rw [hr]; rfl) rfl (add_k (by rw [hr]; rfl)) rfl eg) rfl (by rw [hr]; simp [rh]) (by rw [hr]; rfl)) ?_
    rw [← hM] at d1 d2 d3 ⊢
    refine seq_go (r' := rh ns b M X3 (.im (.int (100 + 12 * (k : Int)))) (.im (shW b m.cur)) (.im (fr R0)) (.im TL) x15 (.im (fr g)) x17 x18 x19 [mvO b m, mvO b m]) (asg_to (d := fr (m.now + g)) (call_1 (a := .lst [fr m.now, fr g]) (by rfl) rfl l_sum2) rfl (by simp [rh]) (by rw [hM]; rfl)) ?_
    refine seq_go (r' := rh ns b M X3 (.im (.int (100 + 12 * (k : Int)))) (.im (shW b m.cur)) (.im (fr R0)) (.im TL) x15 (.im (fr g)) (.im (fr f)) x18 x19 [mvO b m, mvO b m]) (asg_to (d := fr f) (call_2 (a := .int (g.num * q)) (b := .int ((g.den : Int) * 3)) ?_ rfl ?_ rfl l_low) rfl (by simp [rh]) rfl) ?_
    · have mb : mulB g.num (q : Int) = true := mulB_r (by omega) (by omega)
      have e0 : fBin ixD (fVar 16) (fK (.int 0)) (rh ns b M X3 (.im (.int (100 + 12 * (k : Int)))) (.im (shW b m.cur)) (.im (fr R0)) (.im TL) x15 (.im (fr g)) x17 x18 x19 [mvO b m, mvO b m]) = .ok (.int g.num) := x_ixD_fr0 (rh ns b M X3 (.im (.int (100 + 12 * (k : Int)))) (.im (shW b m.cur)) (.im (fr R0)) (.im TL) x15 (.im (fr g)) x17 x18 x19 [mvO b m, mvO b m]) g
      rw [x_fBin, e0, bnd_ok, call_3 (a := .scr ns) (b := .int (100 + 12 * (k : Int) + 5)) (c := .int 4) rfl rfl (add_k rfl) rfl rfl rfl eq]
      show (if mulB g.num (q : Int) then R.ok (D.int (g.num * q)) else .stuck) = _
      rw [mb]; rfl
    · have mb : mulB (g.den : Int) 3 = true := mulB_r (by decide) (by decide)
      rw [x_fBin, x_fBin, show fVar 16 (rh ns b M X3 (.im (.int (100 + 12 * (k : Int)))) (.im (shW b m.cur)) (.im (fr R0)) (.im TL) x15 (.im (fr g)) x17 x18 x19 [mvO b m, mvO b m]) = .ok (fr g) from rfl]
      show (if mulB (g.den : Int) 3 then R.ok (D.int ((g.den : Int) * 3)) else .stuck) = _
      rw [mb]; rfl
    obtain ⟨rA, hrA⟩ : ∃ rA : Sl → List Ob → Rho, rA = fun y os => rh ns b M X3 (.im (.int (100 + 12 * (k : Int)))) (.im (shW b m.cur)) (.im (fr R0)) (.im TL) x15 (.im (fr g)) (.im (fr f)) y x19 os := ⟨_, rfl⟩
    have x1 : fXm (fCallM 5 F_u_law_do (fConsA (fK (.int 1)) (fConsA (fVar 4) (fConsA (fK .non) (fConsA (fVar 16) (fConsA (fK .non) fNil)))))) (rA x18 [mvO b m, mvO b m]) = .ok (.non, rA x18 [mvO b M, mvO b m]) := xm_call (ds := [.int 1, .obj 0, .non, fr g, .non]) (os := [mvO b m, mvO b m]) (by rw [hrA]; rfl) rfl (by rw [hrA]; rfl) d1 (by rw [hrA]; rfl)
    have x2 : fXm (fCallM 5 F_u_law_do (fConsA (fK (.int 1)) (fConsA (fVar 5) (fConsA (fK .non) (fConsA (fVar 17) (fConsA (fK .non) fNil)))))) (rA x18 [mvO b M, mvO b m]) = .ok (.non, rA x18 [mvO b M, mvO b (m.go f)]) := xm_call (ds := [.int 1, .obj 1, .non, fr f, .non]) (os := [mvO b M, mvO b m]) (by rw [hrA]; rfl) rfl (by rw [hrA]; rfl) d2 (by rw [hrA]; rfl)
    have x3 : fXm (fCallM 5 F_u_law_do (fConsA (fK (.int 1)) (fConsA (fVar 5) (fConsA (fK .non) (fConsA (fCall 2 F_u_law_less (fCons (fVar 16) (fCons (fVar 17) fNil))) (fConsA (fK .non) fNil)))))) (rA (.im (.lst [.non, .non])) [mvO b M, mvO b (m.go f)]) = .ok (.non, rA (.im (.lst [.non, .non])) [mvO b M, mvO b M]) := xm_call (ds := [.int 1, .obj 1, .non, fr (g - f), .non]) (os := [mvO b M, mvO b (m.go f)]) (consA_ok rfl rfl (consA_ok (by rw [hrA]; rfl) rfl (consA_ok rfl rfl (consA_ok (call_2 (a := fr g) (b := fr f) (by rw [hrA]; rfl) rfl (by rw [hrA]; rfl) rfl l_df) rfl (consA_ok rfl rfl rfl))))) rfl (by rw [hrA]; rfl) d3 (by rw [hrA]; rfl)
    have w1 : ∀ y os, wSt (rA y os) = true := fun y os => by rw [hrA]; rfl
    have y1 := lX_ok (consAX_ok x1 rfl (w1 _ _) (consAX_ok x2 rfl (w1 _ _) (show fNilX _ = _ from rfl))) (by decide)
    have y2 := lX_ok (consAX_ok x3 rfl (w1 _ _) (show fNilX _ = _ from rfl)) (by decide)
    refine seq_go (r' := rA (.im (.lst [.non, .non])) [mvO b M, mvO b (m.go f)]) ?_ ?_
    · show fAsgX 18 _ (rh ns b M X3 (.im (.int (100 + 12 * (k : Int)))) (.im (shW b m.cur)) (.im (fr R0)) (.im TL) x15 (.im (fr g)) (.im (fr f)) x18 x19 [mvO b m, mvO b m]) = _
      rw [show rh ns b M X3 (.im (.int (100 + 12 * (k : Int)))) (.im (shW b m.cur)) (.im (fr R0)) (.im TL) x15 (.im (fr g)) (.im (fr f)) x18 x19 [mvO b m, mvO b m] = rA x18 [mvO b m, mvO b m] from by rw [hrA]]
      unfold fAsgX
      rw [w1, if_pos rfl, y1]
      rw [hrA]
      rfl
    · show fIfX _ _ _ (rA (.im (.lst [.non, .non])) [mvO b M, mvO b (m.go f)]) = _
      unfold fIfX fTestX
      rw [w1, if_pos rfl]
      have add : fBinX addD (fXe (fVar 18)) (fLX (fSzX (fConsAX (fXm (fCallM 5 F_u_law_do (fConsA (fK (.int 1)) (fConsA (fVar 5) (fConsA (fK .non) (fConsA (fCall 2 F_u_law_less (fCons (fVar 16) (fCons (fVar 17) fNil))) (fConsA (fK .non) fNil))))))) fNilX))) (rA (.im (.lst [.non, .non])) [mvO b M, mvO b (m.go f)]) = .ok (.lst [.non, .non, .non], rA (.im (.lst [.non, .non])) [mvO b M, mvO b M]) := by
        unfold fBinX
        rw [show fXe (fVar 18) (rA (.im (.lst [.non, .non])) [mvO b M, mvO b (m.go f)]) = .ok (.lst [.non, .non], rA (.im (.lst [.non, .non])) [mvO b M, mvO b (m.go f)]) from by rw [hrA]; rfl, bnd_ok]
        simp only [w1, if_true]
        rw [y2, bnd_ok]
        rfl
      have mul : fXe (fBin mulD (fL (fLst (fCons (fK .non) fNil))) (fK (.int 3))) (rA (.im (.lst [.non, .non])) [mvO b M, mvO b M]) = .ok (.lst (List.replicate 3 .non), rA (.im (.lst [.non, .non])) [mvO b M, mvO b M]) := by
        unfold fXe
        rw [show fBin mulD (fL (fLst (fCons (fK .non) fNil))) (fK (.int 3)) (rA (.im (.lst [.non, .non])) [mvO b M, mvO b M]) = .ok (.lst (List.replicate 3 .non)) from rep_lst (rA (.im (.lst [.non, .non])) [mvO b M, mvO b M]) .non 3 (by decide)]
        rfl
      rw [show ∀ r, fBinX neD (fBinX addD (fXe (fVar 18)) (fLX (fSzX (fConsAX (fXm (fCallM 5 F_u_law_do (fConsA (fK (.int 1)) (fConsA (fVar 5) (fConsA (fK .non) (fConsA (fCall 2 F_u_law_less (fCons (fVar 16) (fCons (fVar 17) fNil))) (fConsA (fK .non) fNil))))))) fNilX)))) (fXe (fBin mulD (fL (fLst (fCons (fK .non) fNil))) (fK (.int 3)))) r = (fBinX addD (fXe (fVar 18)) (fLX (fSzX (fConsAX (fXm (fCallM 5 F_u_law_do (fConsA (fK (.int 1)) (fConsA (fVar 5) (fConsA (fK .non) (fConsA (fCall 2 F_u_law_less (fCons (fVar 16) (fCons (fVar 17) fNil))) (fConsA (fK .non) fNil))))))) fNilX))) r).bnd fun p => if wSt p.2 then (fXe (fBin mulD (fL (fLst (fCons (fK .non) fNil))) (fK (.int 3))) p.2).bnd fun q => (neD q.2 p.1 q.1).bnd fun z => .ok (z, q.2) else .stuck from fun _ => rfl, add, bnd_ok]
      simp only [w1, if_true]
      rw [mul, bnd_ok]
      show ((((neD (rA (.im (.lst [.non, .non])) [mvO b M, mvO b M]) (.lst (List.replicate 3 .non)) (.lst (List.replicate 3 .non))).bnd _).bnd _).bnd _) = _
      rw [nons _ 3 (by decide)]
      rw [hrA]
      rfl
end
theorem rep_w (r : Rho) (w : Str) (n : Nat) (h : n ≤ 100) : fBin mulD (fL (fLst (fCons (fK (.str w)) fNil))) (fK (.int n)) r = .ok (.lst (List.replicate n (.str w))) := rep_lst r (.str w) n (by omega)
theorem asked2 {r : Rho} {fi : Rho → R (List D)} {fe : Rho → R D} {w : Str} {xs : List D} (h1 : fi r = .ok xs) (hl : xs.length < 100) (hi : 19 < r.length) (h : ∀ x ∈ xs, fe (r.set 19 (.im x)) = .ok (.str w)) : fLc [19] (.nm 19) fi (fun _ => .ok true) fe r = .ok (List.replicate xs.length (.str w)) := by
  have q := lcGo_all (t := .nm 19) (fe := fe) (r := wipeR r [19]) id (fun _ => D.str w) xs (fun x hx => ⟨r.set 19 (.im x), by simp [wipeR, hi], h x hx, rfl⟩)
  rw [List.map_id] at q
  refine fLc_ok h1 (by omega) ?_
  rw [q, List.map_const']
theorem dep_rep (w : Str) (n : Nat) (h : PyData.strOk w = true) : Dep 1 (.lst (List.replicate n (.str w))) := dep_lst (n := 0) fun d hd => by
  rw [(List.mem_replicate.mp hd).2]
  exact dep_str 0 h
theorem law_true (ns : List Int) (_ : ns.length ≤ 63) : F_law [.scr ns] = .ok (.bl true) := by
  obtain ⟨j, b, hb, hN, eb⟩ := bookN0 ns
  have l6 := hb.l6
  obtain ⟨g, hg, eg⟩ := pick_name (ns := ns) (k := 1) hb (r := [.im (.scr ns), .im (bkN b), .un, .un, .un, .un, .un, .un, .un, .un, .un, .un, .un, .un, .un, .un, .un, .un, .un, .un, .un, .st true []]) (fv := fWk (fVar 1)) (fp := fK (.int 1)) (f0 := fVar 0) rfl rfl rfl (by decide)
  obtain ⟨q, hq, eq⟩ := pickN ns 2 9 (by decide) (by decide)
  refine runO_rt (r0 := [.im (.scr ns), .un, .un, .un, .un, .un, .un, .un, .un, .un, .un, .un, .un, .un, .un, .un, .un, .un, .un, .un, .un, .st true []]) rfl ?_
  refine seq_go (r' := [.im (.scr ns), .im (bkN b), .un, .un, .un, .un, .un, .un, .un, .un, .un, .un, .un, .un, .un, .un, .un, .un, .un, .un, .un, .st true []]) (asg_to (call_2 (a := .scr ns) (b := .int 10) rfl rfl rfl rfl eb) rfl (by simp) rfl) ?_
  refine seq_go (r' := [.im (.scr ns), .im (bkN b), .im (.str g), .un, .un, .un, .un, .un, .un, .un, .un, .un, .un, .un, .un, .un, .un, .un, .un, .un, .un, .st true []]) (asg_to eg rfl (by simp) rfl) ?_
  have i1 := F_mvinit (os := [.ins cM []]) (i := 0) hb rfl hg
  have i2 := F_mvinit (os := [mvO b (mv0 g), .ins cM []]) (i := 1) hb rfl hg
  refine seq_go (r' := [.im (.scr ns), .im (bkN b), .im (.str g), .un, .im (.obj 0), .im (.obj 1), .un, .un, .un, .un, .un, .un, .un, .un, .un, .un, .un, .un, .un, .un, .un, .st true [mvO b (mv0 g), mvO b (mv0 g)]]) ?_ ?_
  · refine parXX_go (r1 := [.im (.scr ns), .im (bkN b), .im (.str g), .un, .un, .un, .un, .un, .un, .un, .un, .un, .un, .un, .un, .un, .un, .un, .un, .un, .un, .st true [mvO b (mv0 g), mvO b (mv0 g)]]) rfl (consX_go (d := .obj 0) (xm_make (os := []) (ds := [bkD b, .str g]) (os' := [mvO b (mv0 g)]) (r' := [.im (.scr ns), .im (bkN b), .im (.str g), .un, .un, .un, .un, .un, .un, .un, .un, .un, .un, .un, .un, .un, .un, .un, .un, .un, .un, .st true [mvO b (mv0 g)]]) rfl rfl rfl i1 rfl) rfl rfl (consX_go (d := .obj 1) (xm_make (os := [mvO b (mv0 g)]) (ds := [bkD b, .str g]) (os' := [mvO b (mv0 g), mvO b (mv0 g)]) rfl rfl rfl i2 rfl) rfl rfl rfl)) rfl rfl
  refine seq_go (r' := rh ns b (mv0 g) .un .un .un .un .un .un .un .un .un .un [mvO b (mv0 g), mvO b (mv0 g)]) ?_ ?_
  · have e : (fAsg (.tp [(.nm 6), (.nm 7), (.nm 8), (.nm 9), (.nm 10)]) (fTup (fCons (fL (fLst (fCons (fTup (fCons (fVar 2) (fCons (fTup (fCons (fK (.int 1)) (fCons (fK (.int 1)) fNil))) fNil))) fNil))) (fCons (fTup (fCons (fK (.int 0)) (fCons (fK (.int 1)) fNil))) (fCons (fTup (fCons (fK (.int 0)) (fCons (fK (.int 1)) fNil))) (fCons (fTup (fCons (fK (.int 0)) (fCons (fK (.int 1)) fNil))) (fCons (fK (.str (Str.ofString "even"))) fNil))))))) [.im (.scr ns), .im (bkN b), .im (.str g), .un, .im (.obj 0), .im (.obj 1), .un, .un, .un, .un, .un, .un, .un, .un, .un, .un, .un, .un, .un, .un, .un, .st true [mvO b (mv0 g), mvO b (mv0 g)]] = .ok (.nx [.im (.scr ns), .im (bkN b), .im (.str g), .un, .im (.obj 0), .im (.obj 1), .im (.lst [.tup [.str g, .tup [.int 1, .int 1]]]), .im (fr 0), .im (fr 0), .im (fr 0), .im (.str (wayS false)), .un, .un, .un, .un, .un, .un, .un, .un, .un, .un, .st true [mvO b (mv0 g), mvO b (mv0 g)]]) := by rfl
    rw [e, alone' hb hg]
    rfl
  obtain ⟨r', fo, hr'⟩ := forGo_inv (t := .nm 3) (fb := body) (fun (i : Nat) => D.int (i : Int)) (fun ys r => ∃ c m x3 x11 x12 x13 x14 x15 x16 x17 x18, Rd b c m ∧ c + ys.length ≤ 10 ∧ r = rh ns b m x3 x11 x12 x13 x14 x15 x16 x17 x18 .un [mvO b m, mvO b m]) (List.range (2 + q)) (fun k ys r hr => by
    obtain ⟨c, m, x3, x11, x12, x13, x14, x15, x16, x17, x18, hR, hl, rfl⟩ := hr
    rw [List.length_cons] at hl
    obtain ⟨m2, a1, y11, y12, y13, y14, y15, y16, y17, y18, e⟩ := body_ok (ns := ns) (k := k) (x11 := x11) (x12 := x12) (x13 := x13) (x14 := x14) (x15 := x15) (x16 := x16) (x17 := x17) (x18 := x18) (x19 := .un) hb hN hR (by omega)
    exact ⟨_, _, (show setT (.nm 3) (.int (k : Int)) (rh ns b m x3 x11 x12 x13 x14 x15 x16 x17 x18 .un [mvO b m, mvO b m]) = .ok (rh ns b m (.im (.int (k : Int))) x11 x12 x13 x14 x15 x16 x17 x18 .un [mvO b m, mvO b m]) from rfl), .inl e, c + 1, m2, _, _, _, _, _, _, _, _, _, a1, by omega, rfl⟩) (rh ns b (mv0 g) .un .un .un .un .un .un .un .un .un .un [mvO b (mv0 g), mvO b (mv0 g)]) ⟨0, mv0 g, _, _, _, _, _, _, _, _, _, ⟨mv0_ok hb.nodup hg, TQ.zero _ _⟩, by rw [List.length_range]; omega, rfl⟩
  refine seq_go (for_go (ds := (List.range (2 + q)).map fun (i : Nat) => D.int (i : Int)) ?_ fo) ?_
  · have e : fBin addD (fK (.int 2)) (fCall 3 F_u_law_pick (fCons (fVar 0) (fCons (fK (.int 2)) (fCons (fK (.int 9)) fNil)))) (rh ns b (mv0 g) .un .un .un .un .un .un .un .un .un .un [mvO b (mv0 g), mvO b (mv0 g)]) = .ok (.int ((2 + q : Nat) : Int)) := by
      rw [x_fBin, call_3 (a := .scr ns) (b := .int 2) (c := .int 9) rfl rfl rfl rfl rfl rfl eq]
      show R.ok (D.int (2 + (q : Int))) = _
      rw [Int.natCast_add]
      rfl
    unfold fRg
    rw [x_fCons, e]
    exact rangeD1_ok (2 + q) (by omega)
  obtain ⟨c, m, x3, x11, x12, x13, x14, x15, x16, x17, x18, hR, _, rfl⟩ := hr'
  have hE := hR.ok.he
  obtain ⟨r, hr⟩ : ∃ r, r = rh ns b m x3 x11 x12 x13 x14 x15 x16 x17 x18 .un [mvO b m, mvO b m] := ⟨_, rfl⟩
  rw [← hr]
  have hlen : 19 < r.length := by rw [hr]; exact (by decide : 19 < 22)
  have none_no : Str.ofString "none" ∉ nms b := fun hx => by
    obtain ⟨p, hp, e⟩ := List.mem_map.mp hx
    rcases hN p hp with h | h
    · exact absurd (e ▸ h) (by decide +kernel)
    · exact absurd (e.symm.trans h) (by decide +kernel)
  have go : ∀ (X Y : D) (w : Str), imD Y = .ok Y → (fWk (fVar 1) r = .ok X ∨ X = .non) → F_u_law_do_r [mvO b m, mvO b m] [.int 2, X, Y, .non, .non] = .ok (.str w) → ∀ fX : Rho → R D, (fX (r.set 19 (.im Y)) = .ok X) → obD X = .ok X → fCallR 5 F_u_law_do_r (fConsA (fK (.int 2)) (fConsA fX (fConsA (fVar 19) (fConsA (fK .non) (fConsA (fK .non) fNil))))) (r.set 19 (.im Y)) = .ok (.str w) := fun X Y w iY _ h fX hX oX => by
    unfold fCallR
    rw [consA_ok (d := .int 2) (ds := [X, Y, .non, .non]) rfl rfl (consA_ok hX oX (consA_ok (by rw [hr]; rfl) (obd_im iY) (consA_ok rfl rfl (consA_ok rfl rfl rfl)))), bnd_ok, show stOf (r.set 19 (.im Y)) = [mvO b m, mvO b m] from by rw [hr]; rfl, show hasSt (r.set 19 (.im Y)) = true from by rw [hr]; rfl]
    exact h
  refine seq_go (if_skip ?_) ?_
  · have l := asked2 (r := r) (fi := fIt true (fTup (fCons (fVar 2) (fCons (fK .non) fNil)))) (fe := fCallR 5 F_u_law_do_r (fConsA (fK (.int 2)) (fConsA (fK .non) (fConsA (fVar 19) (fConsA (fK .non) (fConsA (fK .non) fNil)))))) (w := Str.ofString "no book") (xs := [.str m.e, .non]) (by rw [hr]; rfl) (by simp) hlen (fun x hx => by
      have ix : imD x = .ok x := by
        simp only [List.mem_cons, List.not_mem_nil, or_false] at hx
        rcases hx with rfl | rfl <;> rfl
      exact go .non x _ ix (.inr rfl) (r_nobook ix) _ rfl rfl)
    exact ne_no (d := .lst (List.replicate 2 (.str (Str.ofString "no book")))) (fL_of l) (rep_w r _ 2 (by decide)) (dep_rep _ _ (by decide +kernel)) (by decide)
  · have l := asked2 (r := r) (fi := fIt true (fTup (fCons (fK (.str (Str.ofString "none"))) (fCons (fK .non) (fCons (fTup (fCons (fVar 2) fNil)) fNil))))) (fe := fCallR 5 F_u_law_do_r (fConsA (fK (.int 2)) (fConsA (fWk (fVar 1)) (fConsA (fVar 19) (fConsA (fK .non) (fConsA (fK .non) fNil)))))) (w := Str.ofString "no stand") (xs := [.str (Str.ofString "none"), .non, .tup [.str m.e]]) (by rw [hr]; rfl) (by simp) hlen (fun x hx => by
      have nmE := hb.nmOk hE
      have ix : imD x = .ok x ∧ F_look_name [bkD b, x] = .err (Str.ofString "NoStand") := by
        simp only [List.mem_cons, List.not_mem_nil, or_false] at hx
        rcases hx with rfl | rfl | rfl
        · exact ⟨rfl, look_no hb (w := 7) (n := 1) (.str 1 _ (by decide +kernel) (by decide +kernel)) (decide_eq_false none_no)⟩
        · exact ⟨rfl, look_no hb (w := 7) (n := 1) (.non 1) rfl⟩
        · exact ⟨rfl, look_no hb (w := 7) (n := 1) (.tup 0 _ (by simp) fun d hd => by
            rw [List.mem_singleton.mp hd]
            exact .str 0 _ (nm_ok nmE) (nm_len nmE)) rfl⟩
      exact go (bkD b) x _ ix.1 (.inl (by rw [hr]; rfl)) (r_nostand hb ix.1 ix.2) _ (by rw [hr]; rfl) rfl)
    refine ret_of ?_ rfl
    rw [x_fBin, fL_of l, bnd_ok, show fBin mulD (fL (fLst (fCons (fK (.str (Str.ofString "no stand"))) fNil))) (fK (.int 3)) r = .ok (.lst (List.replicate 3 (.str (Str.ofString "no stand")))) from rep_w r _ 3 (by decide), bnd_ok]
    exact eqD_self (dep_rep _ _ (by decide +kernel)) (by decide)
end PL.W50
end
section
open PySem PySem.W PySem.Calls PyProof.Rows
theorem PySem.Challenge.cw_blendstands_k50_whole_movers_holds : PySem.Challenge.rw_blendstands_k50_whole_movers.Holds := by
  w_on; o_law
  refine HandSHeadRun.head_any (r := OpenLaw.row PySem.Challenge.rw_blendstands_k50_whole_movers) (q := view (OpenLaw.row PySem.Challenge.rw_blendstands_k50_whole_movers).prog [65]) (H := PL.W50.hk) (ob := PL.W50.ob) (M := 6000) (loose := PL.W50.lset) (d := HandSHeadRun.topDef (OpenLaw.row PySem.Challenge.rw_blendstands_k50_whole_movers).prog 65) (kwd := []) PL.W50.ob_eq
    (by kernel_rfl) (fun s => by kernel_rfl) PL.W50.run (by kernel_rfl) (by kernel_rfl) (by kernel_rfl) (by rfl) (by first | assumption | decide +kernel) (by decide +kernel) ⟨rfl, rfl, rfl, rfl, rfl, by decide +kernel⟩ ?hw ?hc
  case hw => w_witness2
  case hc =>
    refine PL.walk_ofM (l := PySem.Challenge.rw_blendstands_k50_whole_movers) (n := 63) (k := 10) (x := "script") (CX := fun w => L2.CX (PySem.Challenge.rw_blendstands_k50_whole_movers).prog w) rfl (by decide) (by kernel_rfl) ⟨rfl, by decide, by decide⟩ ?F (fun _ H s e s' h => PL.cx_false H s e s' h)
    intro w mg fa h Y G hmg0
    obtain ⟨K, KX, tu, c⟩ := Y
    have hmg : mg ("law" : PySem.Str) = some (.ref fa) := by
      have e : (HandSHeadRun.topDef (OpenLaw.row PySem.Challenge.rw_blendstands_k50_whole_movers).prog 65).name = ("law" : PySem.Str) := by kernel_rfl
      rw [← e]
      exact hmg0
    obtain ⟨fd, hb, hF⟩ := PL.W50.facts (P := (PySem.Challenge.rw_blendstands_k50_whole_movers).prog) (w := w) KX G hmg tu c
    exact ⟨K, fd, PL.spF K mg 1 PL.W50.F_law, KX, hb, fun H a ns hl _ hS => PL.law_sp PL.W50.law_true H a ns hl hS, hF⟩
end
